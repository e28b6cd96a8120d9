import PyProof.Rows.All
import Wide.All
import OpenK.AllK
import Wide.FinOn
import KE.DataCmp
import HandS.Deep
import HandS.ForMost
import HandS.Defaults
import HandS.TupAny
import HandS.List
import HandS.Strs
import HandS.Style
import KE.KRevSl
import HandS.SetFor
import PyProof.Rows.SetFrom
import KE.KDictKeyed
import HandS.Dict
import HandS.SetKeys
import HandS.TupMul
import HandS.Wide
import HandS.Gcd
import HandS.IsInst
import HandS.Conv
import HandS.NoneIn
import HandS.Flow
import HandS.Zip
import KE.SortData
import HandS.Head2
import HandS.HeadEnd
import HandS.HeadHook2
import KE.KStateDown
import HandS.Text
import KE.DataMinMax
import PyProof.P3Eq
import PyProof.StrBlock2
import PyProof.TwoTypesSub
import PyProof.ReprRoads
import PyProof.ListStr
import HandS.More
import KE.KTupSum
import HandS.WideBits
import PyProof.FitsReplace
import HandS.Head3
import PySem.Challenge.RW_everygrown_k24_lots_judged
set_option Elab.async false
set_option linter.all false
set_option maxRecDepth 100000
set_option maxHeartbeats 4000000
/-! Tuples whose object is known to have no dict: so that a method of theirs can be called. -/
namespace PQ
open PySem PySem.Spec PyProof.Rows L2
/-- at a stands a tuple of xs, and its object has no dict -/
def SqN (K : PySem.W.Frag) (H : Hp) (a : Addr) (xs : List V) : Prop :=
  (∃ o : Obj, H a = some (.frz o (.tup xs)) ∧ o.cls = .type "tuple" ∧ o.dict = none) ∨
  ∃ (o : Obj) (its : Array Value) (n : Nat), K.lookup a = some o ∧ o.cls = .type "tuple" ∧ o.dict = none ∧ o.data = .seq its n ∧ its.size ≤ sizeLine ∧ Vals xs its.toList
theorem SqN.sq {K : PySem.W.Frag} {H : Hp} {a : Addr} {xs : List V} (h : SqN K H a xs) : SqT K H a xs := by
  rcases h with ⟨o, h, _⟩ | ⟨o, its, n, h1, h2, _, h3, h4, h5⟩
  · exact .inl (.inr ⟨o, h⟩)
  · exact .inr ⟨o, its, n, h1, h2, h3, h4, h5⟩
/-- a new tuple -/
def NwT (H : Hp) (Q : VK) (xs : List V) : Prop := ∀ (p : Addr) (o : Obj), H p = none → o.cls = .type "tuple" → o.dict = none → Q (.ref p) (upd H p (.frz o (.tup xs)))
theorem SqN.new {K : PySem.W.Frag} {H : Hp} {p : Addr} {o : Obj} {xs : List V} (h1 : o.cls = .type "tuple") (h2 : o.dict = none) : SqN K (upd H p (.frz o (.tup xs))) p xs := .inl ⟨o, upd_same, h1, h2⟩
section
variable {X : Cx} {pos : Pos} {es : List Expr} {t : TA}
def tTupN (t : TA) : TE := fun σ H Q => t σ H fun xs H1 => xs.length ≤ sizeLine ∧ NwT H1 Q xs
theorem pe_tupN {x1} (h : PA X es t) : PE X (.Tuple es x1 pos) (tTupN t) := by
  refine ⟨fun pins s σ H Q I hq => ?_⟩
  refine wpAny_Tuple_spliced (thn (h.run pos pins s σ H _ I hq) fun us s1 ⟨xs, H1, I1, r, z, q⟩ => ⟨by rw [← r.length]; exact z, ?_⟩)
  have hf : H1 s1.heap.objs.size = none := I1.hok.fresh (Nat.le_refl _)
  have hg := Heap.get?_push_size (h := s1.heap) (o := ({ cls := .type "tuple", data := .seq us.toArray } : Obj)) rfl
  refine ⟨.ref s1.heap.objs.size, upd H1 s1.heap.objs.size (.frz { cls := .type "tuple", data := .seq us.toArray } (.tup xs)), I1.laid (t' := s1.toks) (fun b u e => Heap.get?_push_of_some _ e) (Nat.le_refl _) ?_, rfl, q _ _ hf rfl rfl⟩
  exact ⟨hg, z, us, r, ⟨_, hg, rfl, _, rfl⟩⟩
def rCatN (K : PySem.W.Frag) : R2 := fun x y H Q => ∃ a b xs ys, x = .ref a ∧ y = .ref b ∧ SqT K H a xs ∧ SqT K H b ys ∧ xs.length + ys.length ≤ sizeLine ∧
  (xs = [] → Q (.ref b) H) ∧ (xs ≠ [] → ys = [] → Q (.ref a) H) ∧ (xs ≠ [] → ys ≠ [] → NwT H Q (xs ++ ys))
theorem op_catN : OpR X (binaryOp .Add) (rCatN X.K) := by
  intro pins s σ H x y v u Q I rx ry h
  obtain ⟨a, b, xs, ys, rfl, rfl, ha, hb, hz, q0, q1, q2⟩ := h
  by_cases hx : xs = []
  · subst hx
    cases rx
    cases ry
    obtain ⟨its, r1, p1, _⟩ := I.tuple ha
    obtain ⟨its2, r2, p2, _⟩ := I.tuple hb
    cases r1
    exact cat_tup0 p1 p2 ⟨.ref b, H, I, rfl, q0 rfl⟩
  · cases rx
    cases ry
    obtain ⟨its, r1, p1, _⟩ := I.tuple ha
    obtain ⟨its2, r2, p2, _⟩ := I.tuple hb
    refine HT.cat_tup p1 p2 (fun z => hx (r1.nil_iff.mp z)) (fun z => ⟨.ref a, H, I, rfl, q1 hx (r2.nil_iff.mp z)⟩) (fun z => ?_) (by rw [← r1.length, ← r2.length]; exact hz)
    have hg := Heap.get?_push_size (h := s.heap) (o := ({ cls := .type "tuple", data := .seq (its ++ its2).toArray } : Obj)) rfl
    refine ⟨.ref s.heap.objs.size, _, I.laid (t' := s.toks) (o := .frz { cls := .type "tuple", data := .seq (its ++ its2).toArray } (.tup (xs ++ ys))) (fun b ob q => Heap.get?_push_of_some _ q) (Nat.le_refl _) ?_, rfl, q2 hx (fun w => z (r2.nil_iff.mpr w)) _ _ (I.hok.fresh (Nat.le_refl _)) rfl rfl⟩
    exact ⟨hg, by rw [List.length_append]; exact hz, _, r1.append r2, ⟨_, hg, rfl, _, rfl⟩⟩
def rSlN (K : PySem.W.Frag) : V → Option Int → Option Int → Hp → VK → Prop := fun x lo hi H Q => ∃ a xs, x = .ref a ∧ SqT K H a xs ∧
  (HT.sIx xs.length 0 lo = 0 ∧ HT.sIx xs.length xs.length hi = xs.length → Q (.ref a) H) ∧ (¬ (HT.sIx xs.length 0 lo = 0 ∧ HT.sIx xs.length xs.length hi = xs.length) → NwT H Q (cutV xs lo hi))
theorem sl_tupN : SlR X (rSlN X.K) := by
  intro pins s σ H x v vl vu lo hi sl Q I rx hs pl pu h
  obtain ⟨a, xs, rfl, hx, q1, q2⟩ := h
  cases rx
  obtain ⟨its, r, ht, hz⟩ := I.tuple hx
  have hlen : its.toArray.size = xs.length := by rw [List.size_toArray]; exact r.length.symm
  by_cases hw : HT.sIx xs.length 0 lo = 0 ∧ HT.sIx xs.length xs.length hi = xs.length
  · refine ⟨"tuple", _, PyProof.Rows.slot_tuple_getitem.lookup, ht.typeIs, ?_⟩
    exact getItem_tuple_whole ht hs pl pu (by rw [hlen]; exact hw) ⟨.ref a, H, I, rfl, q1 hw⟩
  · refine ⟨"tuple", _, PyProof.Rows.slot_tuple_getitem.lookup, ht.typeIs, ?_⟩
    refine HT.getItem_tuple_cut ht hs pl pu (by rw [hlen]; exact hw) ?_ (by rw [hlen]; exact hz)
    rw [hlen]
    have hg := Heap.get?_push_size (h := s.heap) (o := ({ cls := .type "tuple", data := .seq ((its.drop (HT.sIx xs.length 0 lo)).take (HT.sIx xs.length xs.length hi - HT.sIx xs.length 0 lo)).toArray } : Obj)) rfl
    refine ⟨.ref s.heap.objs.size, _, I.laid (t' := s.toks) (o := .frz { cls := .type "tuple", data := .seq ((its.drop (HT.sIx xs.length 0 lo)).take (HT.sIx xs.length xs.length hi - HT.sIx xs.length 0 lo)).toArray } (.tup (cutV xs lo hi))) (fun b ob q => Heap.get?_push_of_some _ q) (Nat.le_refl _) ?_, rfl, q2 hw _ _ (I.hok.fresh (Nat.le_refl _)) rfl rfl⟩
    exact ⟨hg, Nat.le_trans (cutV_length xs lo hi) hz, _, (r.drop (HT.sIx xs.length 0 lo)).take (HT.sIx xs.length xs.length hi - HT.sIx xs.length 0 lo), ⟨_, hg, rfl, _, rfl⟩⟩
theorem call_tupleN : CallR X (.type "tuple") (fun xs H Q => ∃ p ys, xs = [.ref p] ∧ ((SqL X.K H p ys ∧ NwT H Q ys) ∨ (SqT X.K H p ys ∧ Q (.ref p) H))) := by
  intro pins s σ H xs us Q I r h
  obtain ⟨p, ys, rfl, h⟩ := h
  obtain ⟨u, rfl, rx⟩ := vals1 r
  cases rx
  rcases h with ⟨hq, q⟩ | ⟨hq, q⟩
  · obtain ⟨its, r', pl, hz⟩ := I.list hq
    have hlen := r'.length
    refine call_tuple_list pl.isList (fun h' kp => ?_) (by simp only [List.size_toArray] <;> omega)
    have I1 : Inv X pins σ H { s with heap := h' } := I.kept (t' := s.toks) kp
    have hg := Heap.get?_push_size (h := h') (o := ({ cls := .type "tuple", data := .seq its.toArray } : Obj)) rfl
    have I2 : Inv X pins σ (upd H h'.objs.size (.frz { cls := .type "tuple", data := .seq its.toArray } (.tup ys))) { s with heap := h'.push { cls := .type "tuple", data := .seq its.toArray } } :=
      I1.laid (t' := s.toks) (fun b o e => Heap.get?_push_of_some _ e) (Nat.le_refl _) (show ObjOk X.prog X.w _ _ _ (.frz _ (.tup ys)) from ⟨hg, hz, its, r', ⟨_, hg, rfl, _, rfl⟩⟩)
    exact ⟨.ref h'.objs.size, _, I2, rfl, q _ _ (I1.hok.fresh (Nat.le_refl _)) rfl rfl⟩
  · obtain ⟨its, r', pl, hz⟩ := I.tuple hq
    exact call_tuple_same pl ⟨.ref p, H, I, rfl, q⟩
/-- t.index(i), the first place, of numbers -/
theorem mt_tup_indexI : MtR X "tuple.index" (fun x xs H Q => ∃ p, ∃ ys : List Int, ∃ z j, x = .ref p ∧ xs = [.int z] ∧ SqT X.K H p (ys.map V.int) ∧ ys[j]? = some z ∧ (∀ m, m < j → ys[m]? ≠ some z) ∧ Q (.int (j : Nat)) H) := by
  intro pins s σ H x xs v us Q I rx rs h
  obtain ⟨p, ys, z, j, rfl, rfl, hq, hy, hno, q⟩ := h
  cases rx
  obtain ⟨u, rfl, t, rfl⟩ := vals1 rs
  obtain ⟨its, r, pl, hz⟩ := I.tuple hq
  obtain ⟨⟨cls, dd, dt, sl⟩, ho, hc, n, hd⟩ := pl
  simp only at hc hd
  subst hc
  subst hd
  have hl : its.toArray.size = ys.length := by rw [List.size_toArray, ← r.length, List.length_map]
  have hj : j < its.toArray.size := by rw [hl]; exact (List.getElem?_eq_some_iff.mp hy).1
  have at' : ∀ (m : Nat) (hm : m < its.toArray.size), ∃ y t', ys[m]? = some y ∧ its.toArray[m] = Value.int y t' := fun m hm => by
    have hm' : m < ys.length := by rw [← hl]; exact hm
    obtain ⟨w, hw, t', hw'⟩ := r.get (i := m) (x := .int ys[m]) (by simp [hm'])
    refine ⟨ys[m], t', List.getElem?_eq_getElem hm', ?_⟩
    have e := (List.getElem?_eq_some_iff.mp hw).2
    rw [← hw', ← e]
    simp
  have fl : (ys.map V.int).all flatV = true := by
    rw [List.all_map]
    exact List.all_eq_true.mpr fun _ _ => rfl
  refine call_meets PySem.F.slot_tuple_index ⟨_, ho, rfl⟩ PySem.F.entry_tuple_index (PySem.F.args_tuple_index_2 _ _) (TI.tuple_indexAt p its.toArray n dd sl (.int z t) (eqU (.int z)) j hj ?_ ?_)
    ⟨ho, fun w hw => mem_eqAt (x := .int z) ⟨t, rfl⟩ rfl r fl w (by simpa using hw), ⟨.int (j : Nat), H, I.tok _, ⟨_, rfl⟩, q⟩⟩
  · obtain ⟨y, t', h1, h2⟩ := at' j hj
    rw [hy] at h1
    cases h1
    rw [h2]
    show (z == z) = true
    exact beq_self_eq_true z
  · intro m hm hmj
    obtain ⟨y, t', h1, h2⟩ := at' m hm
    rw [h2]
    show (y == z) = false
    exact beq_eq_false_iff_ne.mpr fun e => hno m hmj (e ▸ h1)
/-! ### data as deep as a thousand -/
def shp (d : PyData) : Bool := d.canLay0 && decide (d.depth ≤ 3000)
theorem canLay_of_shp {d : PyData} (h : shp d = true) : d.canLay0 = true := (Bool.and_eq_true_iff.mp h).1
theorem depth_of_shp {d : PyData} (h : shp d = true) : d.depth ≤ 3000 := of_decide_eq_true (Bool.and_eq_true_iff.mp h).2
theorem room_of_shp {A : Around} {da db : PyData} (h : shp da = true) (hu : A.units + 3010 < cLine) : A.units + min da.depth db.depth < cLine := by
  have h1 := depth_of_shp h
  have h2 : min da.depth db.depth ≤ da.depth := Nat.min_le_left _ _
  omega
theorem room_in_shp {A : Around} {xs : List PyData} {d : PyData} (hd : shp d = true) (hu : A.units + 3010 < cLine) : A.units + 1 + min (PyData.depthAll xs) d.depth < cLine := by
  have h1 := depth_of_shp hd
  have h2 : min (PyData.depthAll xs) d.depth ≤ d.depth := Nat.min_le_right _ _
  omega
def rEqP (K : PySem.W.Frag) : R2 := fun x y H Q => ∃ d e, Dp K H x d ∧ Dp K H y e ∧ shp d = true ∧ shp e = true ∧ Q (.bl (PyData.eqv d e)) H
def rNeP (K : PySem.W.Frag) : R2 := fun x y H Q => ∃ d e, Dp K H x d ∧ Dp K H y e ∧ shp d = true ∧ shp e = true ∧ Q (.bl (!PyData.eqv d e)) H
def rInP (K : PySem.W.Frag) : R2 := fun x y H Q => ∃ d ds, Dp K H x d ∧ Dp K H y (.list ds) ∧ shp d = true ∧ shp (.list ds) = true ∧ Q (.bl (ds.any fun z => PyData.eqv z d)) H
def rNotInP (K : PySem.W.Frag) : R2 := fun x y H Q => ∃ d ds, Dp K H x d ∧ Dp K H y (.list ds) ∧ shp d = true ∧ shp (.list ds) = true ∧ Q (.bl (!ds.any fun z => PyData.eqv z d)) H
theorem op_eqP (hu : X.A.units + 3010 < cLine) : OpR X (compareOp .Eq) (rEqP X.K) := by
  intro pins s σ H x y v u Q I rx ry h
  obtain ⟨d, e, hd, he, sd, se, q⟩ := h
  obtain ⟨as, r1⟩ := Dp.reads I d x v hd rx
  obtain ⟨bs, r2⟩ := Dp.reads I e y u he ry
  exact SeqAt.compareEq_reads r1 r2 (canLay_of_shp sd) (canLay_of_shp se) (room_of_shp sd hu) ⟨.bl _, H, I, rfl, q⟩
theorem op_neP (hu : X.A.units + 3010 < cLine) : OpR X (compareOp .NotEq) (rNeP X.K) := by
  intro pins s σ H x y v u Q I rx ry h
  obtain ⟨d, e, hd, he, sd, se, q⟩ := h
  obtain ⟨as, r1⟩ := Dp.reads I d x v hd rx
  obtain ⟨bs, r2⟩ := Dp.reads I e y u he ry
  exact SeqAt.compareNe_reads r1 r2 (canLay_of_shp sd) (canLay_of_shp se) (room_of_shp sd hu) ⟨.bl _, H, I, rfl, q⟩
theorem op_inP (hu : X.A.units + 3010 < cLine) : OpR X (compareOp .In) (rInP X.K) := by
  intro pins s σ H x y v u Q I rx ry h
  obtain ⟨d, ds, hd, he, sd, se, q⟩ := h
  obtain ⟨as, r1⟩ := Dp.reads I d x v hd rx
  obtain ⟨bs, r2⟩ := Dp.reads I (.list ds) y u he ry
  exact SeqAt.in_list_reads r2 r1 (canLay_of_shp se) (canLay_of_shp sd) (room_in_shp sd hu) ⟨.bl _, H, I, rfl, q⟩
theorem op_notInP (hu : X.A.units + 3010 < cLine) : OpR X (compareOp .NotIn) (rNotInP X.K) := by
  intro pins s σ H x y v u Q I rx ry h
  obtain ⟨d, ds, hd, he, sd, se, q⟩ := h
  obtain ⟨as, r1⟩ := Dp.reads I d x v hd rx
  obtain ⟨bs, r2⟩ := Dp.reads I (.list ds) y u he ry
  exact SeqAt.notIn_list_reads r2 r1 (canLay_of_shp se) (canLay_of_shp sd) (room_in_shp sd hu) ⟨.bl _, H, I, rfl, q⟩
/-! ### the order of data -/
def isNonP : PyData → Bool
  | .none => true
  | _ => false
def cmpOk (p q : PyData) : Bool := PySem.W.alike p q && !isNonP p && decide (p.depth ≤ 3000)
def rOrd (b : PyData → PyData → Bool) (K : PySem.W.Frag) : R2 := fun x y H Q => ∃ d e, Dp K H x d ∧ Dp K H y e ∧ cmpOk d e = true ∧ Q (.bl (b d e)) H
theorem cmpOk_of {d e : PyData} (h : cmpOk d e = true) : PySem.W.alike d e = true ∧ d ≠ .none ∧ d.depth ≤ 3000 := by
  unfold cmpOk at h
  simp only [Bool.and_eq_true, Bool.not_eq_true', decide_eq_true_eq] at h
  exact ⟨h.1.1, fun z => by rw [z] at h; simp [isNonP] at h, h.2⟩
theorem room_of_dep {A : Around} {da db : PyData} (h : da.depth ≤ 3000) (hu : A.units + 3010 < cLine) : A.units + min da.depth db.depth < cLine := by
  have h2 : min da.depth db.depth ≤ da.depth := Nat.min_le_left _ _
  omega
theorem op_ltO (hu : X.A.units + 3010 < cLine) : OpR X (compareOp .Lt) (rOrd (fun d e => PySem.W.dataLt d e) X.K) := by
  intro pins s σ H x y v u Q I rx ry ⟨d, e, hd, he, ok, q⟩
  obtain ⟨as, r1⟩ := Dp.reads I d x v hd rx
  obtain ⟨bs, r2⟩ := Dp.reads I e y u he ry
  obtain ⟨h1, h2, h3⟩ := cmpOk_of ok
  exact PySem.W.lt_data r1 r2 h1 h2 (room_of_dep h3 hu) ⟨.bl _, H, I, rfl, q⟩
theorem op_gtO (hu : X.A.units + 3010 < cLine) : OpR X (compareOp .Gt) (rOrd (fun d e => PySem.W.dataLt e d) X.K) := by
  intro pins s σ H x y v u Q I rx ry ⟨d, e, hd, he, ok, q⟩
  obtain ⟨as, r1⟩ := Dp.reads I d x v hd rx
  obtain ⟨bs, r2⟩ := Dp.reads I e y u he ry
  obtain ⟨h1, h2, h3⟩ := cmpOk_of ok
  exact PySem.W.gt_data r1 r2 h1 h2 (room_of_dep h3 hu) ⟨.bl _, H, I, rfl, q⟩
theorem op_leO (hu : X.A.units + 3010 < cLine) : OpR X (compareOp .LtE) (rOrd (fun d e => !PySem.W.dataLt e d) X.K) := by
  intro pins s σ H x y v u Q I rx ry ⟨d, e, hd, he, ok, q⟩
  obtain ⟨as, r1⟩ := Dp.reads I d x v hd rx
  obtain ⟨bs, r2⟩ := Dp.reads I e y u he ry
  obtain ⟨h1, h2, h3⟩ := cmpOk_of ok
  exact PySem.W.le_data r1 r2 h1 h2 (room_of_dep h3 hu) ⟨.bl _, H, I, rfl, q⟩
theorem op_geO (hu : X.A.units + 3010 < cLine) : OpR X (compareOp .GtE) (rOrd (fun d e => !PySem.W.dataLt d e) X.K) := by
  intro pins s σ H x y v u Q I rx ry ⟨d, e, hd, he, ok, q⟩
  obtain ⟨as, r1⟩ := Dp.reads I d x v hd rx
  obtain ⟨bs, r2⟩ := Dp.reads I e y u he ry
  obtain ⟨h1, h2, h3⟩ := cmpOk_of ok
  exact PySem.W.ge_data r1 r2 h1 h2 (room_of_dep h3 hu) ⟨.bl _, H, I, rfl, q⟩
/-- l.index(x): the first place of an equal one -/
def rIndexP (K : PySem.W.Frag) : V → List V → Hp → VK → Prop := fun x xs H Q => ∃ (a : Addr) (y : V) (d : PyData) (ds : List PyData) (j : Nat) (z : PyData), x = V.ref a ∧ xs = [y] ∧ Dp K H (V.ref a) (.list ds) ∧ Dp K H y d ∧
  shp (.list ds) = true ∧ shp d = true ∧ ds[j]? = some z ∧ PyData.eqv z d = true ∧ (∀ (m : Nat) (z' : PyData), m < j → ds[m]? = some z' → PyData.eqv z' d = false) ∧ Q (.int (j : Nat)) H
theorem mt_indexP (hu : X.A.units + 3010 < cLine) : MtR X "list.index" (rIndexP X.K) := by
  intro pins s σ H x xs v us Q I rx rxs h
  obtain ⟨a, y, d, ds, j, z, rfl, rfl, hl, hy, sl, sd, hz, hzj, hno, q⟩ := h
  cases rx
  cases rxs with
  | cons ry rt =>
    rename_i uy ut
    cases rt
    obtain ⟨bs, r1⟩ := Dp.reads I d y uy hy ry
    have hxs : PyData.canLayAll0 ds = true := canLay_of_shp sl
    have hroom : X.A.units + 1 + min (PyData.depthAll ds) d.depth < cLine := room_in_shp sd hu
    cases hl with
    | lst hs ha =>
      obtain ⟨its, rv, ⟨⟨cls, dd, data, sls⟩, n, ho, hc, hdn, hdt⟩, hlen⟩ := I.list hs
      simp only at hc hdt
      subst hc hdt
      obtain ⟨as, h4⟩ := Dp.readsAll I ds _ its ha rv
      have hn : its.length = ds.length := SeqAt.ReadsAll.length ds its as h4
      have hmap : its.map (SeqAt.readOf s.heap) = ds := SeqAt.readsAll_map ds its as hxs h4
      have hvl := rv.length
      have hsl := sizeLine_eq
      obtain ⟨hjd, _⟩ := List.getElem?_eq_some_iff.mp hz
      have hjl : j < its.length := by omega
      have hj : j < its.toArray.size := by simpa using hjl
      have at_ : ∀ (m : Nat) (hm : m < its.toArray.size) (z' : PyData), ds[m]? = some z' → SeqAt.readOf s.heap its.toArray[m] = z' := by
        intro m hm z' hz'
        have hml : m < its.length := by simpa using hm
        rw [← hmap, List.getElem?_map, List.getElem?_eq_getElem hml] at hz'
        have e1 : SeqAt.readOf s.heap its[m] = z' := Option.some.inj (show some (SeqAt.readOf s.heap its[m]) = some z' from hz')
        simpa using e1
      refine call_meets PySem.F.slot_list_index ⟨_, ho, rfl⟩ PySem.F.entry_list_index (PySem.F.args_list_index_2 _ _)
        (SeqAt.list_indexAt a its.toArray n dd sls uy (fun u => PyData.eqv (SeqAt.readOf s.heap u) d) j hj (by omega) ?_ ?_) ⟨ho, SeqAt.items_eqAt (vs := its.toArray) (show ReadsAll s.heap its.toArray.toList ds as from h4) r1 hxs (canLay_of_shp sd) hroom, ?_⟩
      · show PyData.eqv (SeqAt.readOf s.heap its.toArray[j]) d = true
        rw [at_ j hj z hz]
        exact hzj
      · intro m hm hmj
        have hmd : m < ds.length := by omega
        have hz' : ds[m]? = some ds[m] := List.getElem?_eq_getElem hmd
        show PyData.eqv (SeqAt.readOf s.heap its.toArray[m]) d = false
        rw [at_ m hm _ hz']
        exact hno m _ hmj hz'
      · exact ⟨.int (j : Nat), H, I.tok _, ⟨_, rfl⟩, q⟩
/-- t.index(x), of data -/
def rIndexT (K : PySem.W.Frag) : V → List V → Hp → VK → Prop := fun x xs H Q => ∃ (a : Addr) (y : V) (d : PyData) (ds : List PyData) (j : Nat) (z : PyData), x = V.ref a ∧ xs = [y] ∧ Dp K H (V.ref a) (.tuple ds) ∧ Dp K H y d ∧
  shp (.list ds) = true ∧ shp d = true ∧ ds[j]? = some z ∧ PyData.eqv z d = true ∧ (∀ (m : Nat) (z' : PyData), m < j → ds[m]? = some z' → PyData.eqv z' d = false) ∧ Q (.int (j : Nat)) H
theorem mt_indexT (hu : X.A.units + 3010 < cLine) : MtR X "tuple.index" (rIndexT X.K) := by
  intro pins s σ H x xs v us Q I rx rxs h
  obtain ⟨a, y, d, ds, j, z, rfl, rfl, hl, hy, sl, sd, hz, hzj, hno, q⟩ := h
  cases rx
  cases rxs with
  | cons ry rt =>
    rename_i uy ut
    cases rt
    obtain ⟨bs, r1⟩ := Dp.reads I d y uy hy ry
    have hxs : PyData.canLayAll0 ds = true := canLay_of_shp sl
    have hroom : X.A.units + 1 + min (PyData.depthAll ds) d.depth < cLine := room_in_shp sd hu
    cases hl with
    | tup hs ha =>
      obtain ⟨its, rv, ⟨⟨cls, dd, data, sls⟩, ho, hc, n, hdt⟩, hlen⟩ := I.tuple hs
      simp only at hc hdt
      subst hc hdt
      obtain ⟨as, h4⟩ := Dp.readsAll I ds _ its ha rv
      have hn : its.length = ds.length := SeqAt.ReadsAll.length ds its as h4
      have hmap : its.map (SeqAt.readOf s.heap) = ds := SeqAt.readsAll_map ds its as hxs h4
      have hvl := rv.length
      obtain ⟨hjd, _⟩ := List.getElem?_eq_some_iff.mp hz
      have hjl : j < its.length := by omega
      have hj : j < its.toArray.size := by simpa using hjl
      have at_ : ∀ (m : Nat) (hm : m < its.toArray.size) (z' : PyData), ds[m]? = some z' → SeqAt.readOf s.heap its.toArray[m] = z' := by
        intro m hm z' hz'
        have hml : m < its.length := by simpa using hm
        rw [← hmap, List.getElem?_map, List.getElem?_eq_getElem hml] at hz'
        have e1 : SeqAt.readOf s.heap its[m] = z' := Option.some.inj (show some (SeqAt.readOf s.heap its[m]) = some z' from hz')
        simpa using e1
      refine call_meets PySem.F.slot_tuple_index ⟨_, ho, rfl⟩ PySem.F.entry_tuple_index (PySem.F.args_tuple_index_2 _ _)
        (TI.tuple_indexAt a its.toArray n dd sls uy (fun u => PyData.eqv (SeqAt.readOf s.heap u) d) j hj ?_ ?_) ⟨ho, SeqAt.items_eqAt (vs := its.toArray) (show ReadsAll s.heap its.toArray.toList ds as from h4) r1 hxs (canLay_of_shp sd) hroom, ?_⟩
      · show PyData.eqv (SeqAt.readOf s.heap its.toArray[j]) d = true
        rw [at_ j hj z hz]
        exact hzj
      · intro m hm hmj
        have hmd : m < ds.length := by omega
        have hz' : ds[m]? = some ds[m] := List.getElem?_eq_getElem hmd
        show PyData.eqv (SeqAt.readOf s.heap its.toArray[m]) d = false
        rw [at_ m hm _ hz']
        exact hno m _ hmj hz'
      · exact ⟨.int (j : Nat), H, I.tok _, ⟨_, rfl⟩, q⟩
def rIdxI (K : PySem.W.Frag) : V → List V → Hp → VK → Prop := fun x xs H Q => ∃ p, ∃ ys : List Int, ∃ z j, x = .ref p ∧ xs = [.int z] ∧ SqT K H p (ys.map V.int) ∧ ys[j]? = some z ∧ (∀ m, m < j → ys[m]? ≠ some z) ∧ Q (.int (j : Nat)) H
theorem mt_indexTI (hu : X.A.units + 3010 < cLine) : MtR X "tuple.index" (fun x xs H Q => rIdxI X.K x xs H Q ∨ rIndexT X.K x xs H Q) := by
  intro pins s σ H x xs v us Q I rx rxs h
  rcases h with h | h
  · exact mt_tup_indexI pins s σ H x xs v us Q I rx rxs h
  · exact mt_indexT hu pins s σ H x xs v us Q I rx rxs h
theorem sqn_is {pins : List (Addr × Obj)} {σ : L2.St} {H : Hp} {s : Shared} {p : Addr} {xs : List V} (I : Inv X pins σ H s) (h : SqN X.K H p xs) :
    s.TypeIs (.ref p) "tuple" ∧ ∀ a, Value.ref p = .ref a → ∃ ob, s.heap.get? a = some ob ∧ ob.dict = none := by
  rcases h with ⟨o, h, h1, h2⟩ | ⟨o, its, n, h, h1, h2, _⟩
  · obtain ⟨e, _⟩ := I.hok p _ h
    refine ⟨⟨o, e, h1⟩, fun a ea => ?_⟩
    cases ea
    exact ⟨o, e, h2⟩
  · refine ⟨⟨o, I.kIn p o h, h1⟩, fun a e => ?_⟩
    cases e
    exact ⟨o, I.kIn _ o h, h2⟩
section
variable {o e : Expr} {to : TE} {name : Str} {apos cpos : Pos} {id : String} {r : V → List V → Hp → VK → Prop}
def tTM (K : PySem.W.Frag) (r : V → List V → Hp → VK → Prop) (to : TE) (t : TA) : TE := fun σ H Q => to σ H fun x H1 => (∃ p xs, x = .ref p ∧ SqN K H1 p xs) ∧ t σ H1 fun xs H2 => r x xs H2 Q
/-- a method of a tuple -/
theorem pe_tm (slot : Slot "tuple" name id) (hty : typeOf (.builtin id) = pure (.type "method_descriptor")) (hm : MtR X id r) (ho : PE X o to) (ha : PA X (e :: es) t)
    (hbase : attributeBase o name X.env (eval o X.env) = eval o X.env := by rfl)
    (hfew : ((backTo cpos (starEach (e :: es) X.env)).all (fun x => !x.1) && (backToKw cpos (keywordEach [] X.env)).all (fun x => x.1.isSome)
      && decide ((e :: es).length + ([] : List Keyword).length + (if ([] : List Keyword).isEmpty then 0 else 1) < 30)) = true := by rfl)
    (hline : (apos.endLine == cpos.line) = true := by rfl) (hs : starEach (e :: es) X.env = (false, eval e X.env) :: starEach es X.env := by rfl) (hplain : (backTo cpos (starEach es X.env)).any (·.1) = false := by rfl) :
    PE X (.Call (.Attribute o name apos) (e :: es) [] cpos) (tTM X.K r to t) := by
  refine ⟨fun pins s σ H Q I h => ?_⟩
  refine wpAny_Call_method_late hbase hfew hline rfl (thn (ho.run pins s σ H _ I h) fun v s1 ⟨x, H1, I1, r1, ⟨p, xs, ex, ty⟩, q1⟩ => ?_)
  subst ex
  cases r1
  obtain ⟨h1, h2⟩ := sqn_is I1 ty
  refine ⟨"tuple", id, PySem.F.plainAttrs_tuple, slot, hty, h1, h2, ?_⟩
  have hA := ha.run cpos pins s1 σ H1 _ I1 q1
  rw [hs] at hA ⊢
  refine Calls.callWith_builtin (by show (false || (backTo cpos (starEach es X.env)).any (·.1)) = false; rw [hplain] <;> rfl) (Calls.evalArgs_plain ?_)
  exact thn hA fun us s2 ⟨vs, H2, I2, r2, q2⟩ => hm pins s2 σ H2 (.ref p) vs (.ref p) us Q I2 rfl r2 q2
def tTL (K : PySem.W.Frag) (r1 r2 : V → List V → Hp → VK → Prop) (to : TE) (t : TA) : TE := fun σ H Q => to σ H fun x H1 => ((∃ p xs, x = .ref p ∧ SqN K H1 p xs) ∧ t σ H1 fun xs H2 => r1 x xs H2 Q) ∨ (tyV K "list" x H1 ∧ t σ H1 fun xs H2 => r2 x xs H2 Q)
/-- a method of a tuple or of a list -/
theorem pe_tl {id2 : String} {r2 : V → List V → Hp → VK → Prop} (slot : Slot "tuple" name id) (hty : typeOf (.builtin id) = pure (.type "method_descriptor")) (hm : MtR X id r) (slot2 : Slot "list" name id2) (hty2 : typeOf (.builtin id2) = pure (.type "method_descriptor")) (hm2 : MtR X id2 r2) (ho : PE X o to) (ha : PA X (e :: es) t)
    (hbase : attributeBase o name X.env (eval o X.env) = eval o X.env := by rfl)
    (hfew : ((backTo cpos (starEach (e :: es) X.env)).all (fun x => !x.1) && (backToKw cpos (keywordEach [] X.env)).all (fun x => x.1.isSome)
      && decide ((e :: es).length + ([] : List Keyword).length + (if ([] : List Keyword).isEmpty then 0 else 1) < 30)) = true := by rfl)
    (hline : (apos.endLine == cpos.line) = true := by rfl) (hs : starEach (e :: es) X.env = (false, eval e X.env) :: starEach es X.env := by rfl) (hplain : (backTo cpos (starEach es X.env)).any (·.1) = false := by rfl) :
    PE X (.Call (.Attribute o name apos) (e :: es) [] cpos) (tTL X.K r r2 to t) := by
  refine ⟨fun pins s σ H Q I h => ?_⟩
  refine wpAny_Call_method_late hbase hfew hline rfl (thn (ho.run pins s σ H _ I h) fun v s1 ⟨x, H1, I1, r1, q0⟩ => ?_)
  rcases q0 with ⟨⟨p, xs, ex, ty⟩, q1⟩ | ⟨ty, q1⟩
  · subst ex
    cases r1
    obtain ⟨h1, h2⟩ := sqn_is I1 ty
    refine ⟨"tuple", id, PySem.F.plainAttrs_tuple, slot, hty, h1, h2, ?_⟩
    have hA := ha.run cpos pins s1 σ H1 _ I1 q1
    rw [hs] at hA ⊢
    refine Calls.callWith_builtin (by show (false || (backTo cpos (starEach es X.env)).any (·.1)) = false; rw [hplain] <;> rfl) (Calls.evalArgs_plain ?_)
    exact thn hA fun us s2 ⟨vs, H2, I2, r2, q2⟩ => hm pins s2 σ H2 (.ref p) vs (.ref p) us Q I2 rfl r2 q2
  · obtain ⟨h1, h2⟩ := tyV_is I1 r1 ty
    refine ⟨"list", id2, PySem.F.plainAttrs_list, slot2, hty2, h1, h2, ?_⟩
    have hA := ha.run cpos pins s1 σ H1 _ I1 q1
    rw [hs] at hA ⊢
    refine Calls.callWith_builtin (by show (false || (backTo cpos (starEach es X.env)).any (·.1)) = false; rw [hplain] <;> rfl) (Calls.evalArgs_plain ?_)
    exact thn hA fun us s2 ⟨vs, H2, I2, rr, q2⟩ => hm2 pins s2 σ H2 x vs v us Q I2 r1 rr q2
end
end
end PQ
/-! ### t[::-1] of a tuple -/
namespace HT
open PySem PyProof.Rows
section
variable {prog : Program} {w : World} {A : Around} {E : Value → Shared → Prop} {s : Shared}
theorem sliceApplied_back {sl : Addr} {vl vu vs : Value} {n : Nat} {Q : Int × Int × Nat → Shared → Prop} (hs : s.heap.IsSliceOf sl vl vu vs) (pl : IsPart vl none) (pu : IsPart vu none) (ps : IsPart vs (some (-1)))
    (h : Q ((n : Int) - 1, -1, n) s) : wpAny (model prog w) A (Builtin.Slice.sliceApplied (.ref sl) (pure (n : Int))) Q E s := by
  obtain ⟨os, hos, hcs, hds⟩ := id hs
  unfold Builtin.Slice.sliceApplied Builtin.Slice.sliceFields
  refine wpAny_bind (wpAny_bind (wpAny_field hos hds (x := vl) rfl (wpAny_bind (wpAny_field hos hds (x := vu) rfl (wpAny_bind (wpAny_field hos hds (x := vs) rfl (wpAny_pure ?_)))))))
  refine wpAny_bind (slicePart_ ps ?_)
  show wpAny _ _ (if ((-1 : Int) == 0) = true then _ else _) _ _ s
  rw [if_neg (by decide)]
  refine wpAny_bind (slicePart_ pl (wpAny_bind (slicePart_ pu (wpAny_bind (wpAny_pure ?_)))))
  show wpAny _ _ (match Builtin.Slice.sliceAdjust none none (-1) (n : Int) with | (lo, hi) => pure (lo, (-1 : Int), Builtin.Slice.slicePlaces lo hi (-1))) _ _ s
  have e1 : Builtin.Slice.sliceAdjust none none (-1) (n : Int) = ((n : Int) - 1, -1) := by
    unfold Builtin.Slice.sliceAdjust
    simp
  rw [e1]
  have e2 : Builtin.Slice.slicePlaces ((n : Int) - 1) (-1) (-1) = n := by
    unfold Builtin.Slice.slicePlaces
    simp
    split <;> omega
  show wpAny _ _ (pure ((n : Int) - 1, (-1 : Int), Builtin.Slice.slicePlaces ((n : Int) - 1) (-1) (-1))) _ _ s
  rw [e2]
  exact wpAny_pure h
theorem pick_back (xs : Array Value) : ((List.range xs.size).filterMap fun (m : Nat) => xs[(((xs.size : Int) - 1) + (m : Int) * (-1)).toNat]?).toArray = xs.toList.reverse.toArray := by
  have e : (List.range xs.size).filterMap (fun (m : Nat) => xs[(((xs.size : Int) - 1) + (m : Int) * (-1)).toNat]?) = ((List.range xs.size).map fun k => xs.size - 1 - k).filterMap fun k => xs[k]? := by
    have q : ∀ (f : Nat → Option Value) (l : List Nat), l.filterMap f = (l.map f).filterMap id := fun f l => by rw [List.filterMap_map]; rfl
    rw [List.filterMap_map, q, q _ (List.range xs.size)]
    congr 1
    refine List.map_congr_left fun m hm => ?_
    have hm := List.mem_range.mp hm
    show xs[(((xs.size : Int) - 1) + (m : Int) * (-1)).toNat]? = xs[xs.size - 1 - m]?
    rw [show (((xs.size : Int) - 1) + (m : Int) * (-1)).toNat = xs.size - 1 - m from by omega]
  rw [e, PySem.W.krv_range, List.filterMap_reverse, PySem.W.krv_all]
theorem getItem_tuple_back {t sl : Addr} {items : Array Value} {vl vu vs : Value} {Q : Value → Shared → Prop} (ht : IsTup s.heap t items) (hs : s.heap.IsSliceOf sl vl vu vs) (pl : IsPart vl none) (pu : IsPart vu none) (ps : IsPart vs (some (-1)))
    (h : Q (.ref s.heap.objs.size) { s with heap := s.heap.push { cls := .type "tuple", data := .seq items.toList.reverse.toArray } })
    (hsz : items.size ≤ sizeLine) : wpAny (model prog w) A (getItem (.ref t) (.ref sl)) Q E s := by
  have htake : sizeOk (.seq items.toList.reverse.toArray) := by
    show items.toList.reverse.toArray.size ≤ sizeLine
    rw [List.size_toArray, List.length_reverse, Array.length_toList]
    omega
  obtain ⟨os, hos, hcs, hds⟩ := id hs
  have hTs : s.TypeIs (.ref sl) "slice" := ⟨os, hos, hcs⟩
  unfold getItem
  try with_reducible refine wpAny_holding ?_
  first | refine wpAny_bind (wpAny_pure ?_) | skip
  refine wpAny_bind (wpAny_sequenceKey ht.typeIs (by decide) ?_)
  refine wpAny_bind (wpAny_callSpecial?_slot (name := Str.ofString "__getitem__") ht.typeIs PyProof.Rows.slot_tuple_getitem
    (wpAny_call_entry PyProof.Rows.slot_tuple_getitem ht.typeIs entry_tuple_getitem ?_ (args_tuple_getitem _ _)))
  show wpAny _ _ (Builtin.Tuple.tupleItemsOf (.ref t) >>= _) _ _ s
  refine wpAny_bind (tupleItemsOf_ ht ?_)
  refine wpAny_bind (wpAny_typeOf hTs ?_)
  rw [if_pos (by decide)]
  refine wpAny_bind (sliceApplied_back hs pl pu ps ?_)
  have hno : ¬ ((((items.size : Int) - 1) == 0 && (-1 : Int) == 1 && items.size == items.size) = true) := by
    intro q
    rw [Bool.and_eq_true, Bool.and_eq_true] at q
    exact absurd q.1.2 (by decide)
  show wpAny _ _ (if (((items.size : Int) - 1) == 0 && (-1 : Int) == 1 && items.size == items.size) = true then _ else _) _ _ s
  rw [if_neg hno, pick_back]
  first
    | exact wpAny_bind (m := Builtin.Tuple.tupleExact _) (wpAny_newObj_type (wpAny_pure ⟨_, rfl, wpAny_pure h⟩) htake)
    | exact wpAny_bind (m := Builtin.Tuple.tupleExact _) (wpAny_newObj_type (wpAny_bind (wpAny_pure (wpAny_pure ⟨_, rfl, wpAny_pure h⟩))) htake)
    | exact wpAny_bind (wpAny_bind (m := Builtin.Tuple.tupleExact _) (wpAny_newObj_type (wpAny_pure (wpAny_pure ⟨_, rfl, wpAny_pure h⟩)) htake))
    | exact wpAny_bind (wpAny_bind (m := Builtin.Tuple.tupleExact _) (wpAny_newObj_type (wpAny_pure ⟨_, rfl, wpAny_pure h⟩) htake))
end
end HT
namespace PQ
open PySem PySem.Spec PyProof.Rows L2
section
variable {X : Cx}
/-- e[::-1], of a list or a tuple -/
def tRevA (K : PySem.W.Frag) (te : TE) : TE := fun σ H Q => te σ H fun x H1 => ∃ a xs, x = .ref a ∧ ((SqL K H1 a xs ∧ ∀ p, H1 p = none → Q (.ref p) (upd H1 p (.lst xs.reverse))) ∨ (SqT K H1 a xs ∧ NwT H1 Q xs.reverse))
theorem pe_revA {e : Expr} {te : TE} {k : Nat} {p1 p2 p3 pos : Pos} (he : PE X e te) : PE X (.Subscript e (.Slice none none (some (.UnaryOp .USub (.Constant (.int 1) k p1) p2)) p3) pos) (tRevA X.K te) := by
  refine ⟨fun pins s σ H Q I h => ?_⟩
  refine Subscript_ (thn (he.run pins s σ H _ I h) fun v s1 ⟨x, H1, I1, r1, q1⟩ => ?_)
  obtain ⟨a, xs, rfl, hx⟩ := q1
  cases r1
  have hst : PO X (some (.UnaryOp .USub (.Constant (.int 1) k p1) p2)) (tPart (tUn (rU fun i => .int (-i)) (tC (.int 1)))) := po_some (pe_un un_neg pe_int)
  refine wpAny_Slice (thn (po_none.run pins s1 σ H1 (fun o H2 => o = none ∧ H2 = H1) I1 ⟨rfl, rfl⟩) fun vl s2 ⟨l, H2, I2, pl, el, e2⟩ => ?_)
  subst el e2
  refine thn (po_none.run pins s2 σ H2 (fun o H3 => o = none ∧ H3 = H2) I2 ⟨rfl, rfl⟩) fun vu s3 ⟨u, H3, I3, pu, eu, e3⟩ => ?_
  subst eu e3
  refine thn (hst.run pins s3 σ H3 (fun o H4 => o = some (-1) ∧ H4 = H3) I3 ⟨1, rfl, -1, rfl, rfl, rfl⟩) fun vs s4 ⟨o, H4, I4, ps, eo, e4⟩ => ?_
  subst eo e4
  have I5 : Inv X pins σ H4 { s4 with heap := s4.heap.push { cls := .type "slice", data := .fields #[vl, vu, vs] } } := I4.kept (t' := s4.toks) fun b ob q => Heap.get?_push_of_some _ q
  show wpAny (model X.prog X.w) X.A (subscriptTail e (.Slice none none (some (.UnaryOp .USub (.Constant (.int 1) k p1) p2)) p3) (.ref a) (.ref s4.heap.objs.size)) (EP X pins σ Q) X.xe { s4 with heap := s4.heap.push { cls := .type "slice", data := .fields #[vl, vu, vs] } }
  rcases hx with ⟨hx, q⟩ | ⟨hx, q⟩
  · obtain ⟨its, r, ht, hz⟩ := I5.list hx
    have hlen := r.length
    refine tail_any (ops := [.ref a, .ref s4.heap.objs.size]) ht.isList.typeIs (PySem.slot_list_getitem.lookup) ?_ (by with_unfolding_all rfl)
    refine wpAny_getItem_list_slice ht.isList (Heap.IsSliceOf.new _ vl vu vs) pl pu ps (by decide) ?_ (by rw [List.size_toArray]; omega)
    rw [PySem.W.krv_pick]
    refine ⟨.ref _, _, I5.laid (t' := s4.toks) (o := .lst xs.reverse) (fun b ob q => Heap.get?_push_of_some _ q) (Nat.le_refl _) ?_, rfl, q _ (I5.hok.fresh (Nat.le_refl _))⟩
    exact ⟨by rw [List.length_reverse]; exact hz, _, 0, r.reverse, Heap.get?_push_size _ rfl⟩
  · obtain ⟨its, r, ht, hz⟩ := I5.tuple hx
    have hlen := r.length
    refine tail_any (ops := [.ref a, .ref s4.heap.objs.size]) ht.typeIs (PyProof.Rows.slot_tuple_getitem.lookup) ?_ (by with_unfolding_all rfl)
    refine HT.getItem_tuple_back (vl := vl) (vu := vu) (vs := vs) ht (Heap.IsSliceOf.new _ vl vu vs) pl pu ps ?_ (by rw [List.size_toArray]; omega)
    have hg := Heap.get?_push_size (h := s4.heap.push { cls := .type "slice", data := .fields #[vl, vu, vs] }) (o := ({ cls := .type "tuple", data := .seq its.toArray.toList.reverse.toArray } : Obj)) rfl
    refine ⟨.ref _, _, I5.laid (t' := s4.toks) (o := .frz { cls := .type "tuple", data := .seq its.toArray.toList.reverse.toArray } (.tup xs.reverse)) (fun b ob q => Heap.get?_push_of_some _ q) (Nat.le_refl _) ?_, rfl, q _ _ (I5.hok.fresh (Nat.le_refl _)) rfl rfl⟩
    refine ⟨hg, by rw [List.length_reverse]; exact hz, its.reverse, r.reverse, ⟨_, hg, rfl, 0, ?_⟩⟩
    simp
end
end PQ
namespace PQ
open PySem PySem.Spec PyProof.Rows L2
section
variable {P : Program} {w : World} {A : Around} {E : Value → Shared → Prop} {s : Shared}
theorem call_set_listI {l : Addr} {items : Array Value} (ns : List Int) {Q : Value → Shared → Prop} (hh : A.handled = none) (hl : s.heap.IsList l items) (hit : IntsAre items.toList ns) (hb : ns.length + 1 < scanBound)
    (h : ∀ (h' : Heap) (tk c : Nat), SetR w h' s.heap.objs.size (fun j => decide (j ∈ ns)) c → c ≤ ns.length → (∀ b o, s.heap.get? b = some o → h'.get? b = some o) → Q (.ref s.heap.objs.size) { s with heap := h', toks := tk }) :
    wpAny (model P w) A (call (.type "set") [.ref l]) Q E s := by
  have hisz : items.size = ns.length := by
    have q := IntsAre.length hit
    rw [Array.length_toList] at q
    exact q
  obtain ⟨c, tl, hmro⟩ := F.called_set.mro
  have hmade := F.called_set.made
  have hsub := F.called_set.sub
  refine wpAny_call (codeAny_of_tree ?_)
  show wpAny _ _ (callAny (.type "set") _) _ _ _
  refine wpAny_pure ⟨Code.quiet_builtin _ (by decide +kernel), codeAny_builtin F.entry_type_call ?_⟩
  rw [Around.under_plain (weight_type_call_type "set" [.ref l] []) rfl]
  have h1 := F.called_set.notType
  have h2 := F.called_set.canCreate
  have hct := F.typeCall_set_1 (.ref l)
  repeat (any_goals (first | assumption | wp_step))

  refine codeAny_mono (code_set_led1 (.ref l) (E := E) (Q₁ := fun obj s₁ => obj = .ref s.heap.objs.size ∧ s₁ = { s with heap := s.heap.push { cls := .type "set", dict := none, data := .set #[] 0 (.fresh 0 0 (!w.params.followText "set-order")) } }) ⟨rfl, rfl⟩) fun r s₁ hr => ?_
  cases r with
  | error e => exact hr
  | ok fl =>
    cases fl with
    | ret obj =>
      obtain ⟨rfl, rfl⟩ := hr
      have hS : (s.heap.push { cls := .type "set", dict := none, data := .set #[] 0 (.fresh 0 0 (!w.params.followText "set-order")) }).get? s.heap.objs.size = some { cls := .type "set", dict := none, data := .set #[] 0 (.fresh 0 0 (!w.params.followText "set-order")) } := Heap.get?_push_size _ rfl
      have hT : Shared.TypeIs { s with heap := s.heap.push { cls := .type "set", dict := none, data := .set #[] 0 (.fresh 0 0 (!w.params.followText "set-order")) } } (.ref s.heap.objs.size) "set" := ⟨_, hS, rfl⟩
      have hli := F.called_set.init.lookup
      have hbi := F.called_set.init.bind (.ref s.heap.objs.size)
      repeat (any_goals (first | assumption | wp_step))

      refine codeAny_mono (codeAny_call_builtin (R := wants (fun r s₂ => r = .none ∧ ∃ h' tk c, s₂ = { s with heap := h', toks := tk } ∧ SetR w h' s.heap.objs.size (fun j => decide (j ∈ ns)) c ∧ c ≤ ns.length ∧
          (∀ b o, s.heap.get? b = some o → h'.get? b = some o)) E) F.called_set.init.plain F.entry_set_init (check_set_init_1 hT ?_)) fun r₂ s₂ hr₂ => ?_
      · obtain ⟨ol, hol, hcl, nl, hdl⟩ := hl
        obtain ⟨ocls, odict, odata, oslots⟩ := ol
        simp only at hcl hdl
        subst hcl; subst hdl
        have hol' : (s.heap.push { cls := .type "set", dict := none, data := .set #[] 0 (.fresh 0 0 (!w.params.followText "set-order")) }).get? l = some { cls := .type "list", dict := odict, data := .seq items nl, slots := oslots } := Heap.get?_push_of_some _ hol
        have hsls := PySem.F.sub_list_set
        have hslf := PySem.F.sub_list_frozenset
        have hne : (Value.type "list" == Value.type "dict") = false := by decide
        have hl1 : (s.heap.push { cls := .type "set", dict := none, data := .set #[] 0 (.fresh 0 0 (!w.params.followText "set-order")) }).IsList l items := ⟨_, hol', rfl, nl, rfl⟩
        unfold Builtin.«set.__init__» noKeywords Builtin.Frozenset.updateFrom
        generalize hPI : pyIter = PI
        wp_walk
        subst hPI

        refine wpAny_pyIter_list hl1 ?_
        refine wpAny_bind (wpAny_runValue ?_)
        have hlS : l < s.heap.objs.size := Heap.lt_size hol
        have hh3 : A.in1.in1.in1.handled = none := by simp [hh]
        have hz1 : (s.heap.push { cls := .type "set", dict := none, data := .set #[] 0 (.fresh 0 0 (!w.params.followText "set-order")) }).objs.size = s.heap.objs.size + 1 := Heap.size_push ..
        have hneI : l ≠ (s.heap.push { cls := .type "set", dict := none, data := .set #[] 0 (.fresh 0 0 (!w.params.followText "set-order")) }).objs.size := by
          rw [Heap.size_push]; exact Nat.ne_of_lt (Nat.lt_succ_of_lt hlS)
        have hSf : s.heap.objs.size ∉ [(s.heap.push { cls := .type "set", dict := none, data := .set #[] 0 (.fresh 0 0 (!w.params.followText "set-order")) }).objs.size, l] := by
          rw [Heap.size_push]; simp only [List.mem_cons, List.mem_singleton, List.not_mem_nil, or_false, not_or]
          exact ⟨Nat.ne_of_lt (Nat.lt_succ_self _), Nat.ne_of_gt hlS⟩
        have hval : ∀ (i : Nat) (v : Value), items[i]? = some v → ∃ k t, ns[i]? = some k ∧ v = .int k t := fun i v hv => by
          have hi : i < ns.length := by rw [← hisz]; exact (Array.getElem?_eq_some_iff.mp hv).1
          obtain ⟨t, e⟩ := PyProof.Rows.IntsAre.int_at hit i v (by rw [Array.getElem?_toList]; exact hv)
          refine ⟨ns[i], t, List.getElem?_eq_getElem hi, ?_⟩
          rw [e, List.getD_eq_getElem?_getD, List.getElem?_eq_getElem hi] <;> rfl
        refine set_update_ints ((Walks.list hh3 _ l hneI items).toS) s.heap.objs.size
          hSf ns hisz hb hval (items.size - 0) 0 _ (by omega) (Nat.zero_le _)
          ⟨⟨_, Heap.get?_push_size _ rfl, rfl, rfl⟩, (hl1.push _)⟩ ?hS0 ?hR
        case hS0 =>
          have hget : ((s.heap.push { cls := .type "set", dict := none, data := .set #[] 0 (.fresh 0 0 (!w.params.followText "set-order")) }).push { cls := .type "list_iterator", data := .fields #[.ref l, .int 0 0] }).get? s.heap.objs.size
              = some { cls := .type "set", dict := none, data := .set #[] 0 (.fresh 0 0 (!w.params.followText "set-order")) } := Heap.get?_push_of_some _ hS
          exact ⟨0, Nat.le_refl 0, setR_new_at hget⟩
        case hR =>
          intro s' c' hm hc' hS'
          obtain ⟨h', g2, d', tk', os'⟩ := s'
          have eg : g2 = s.gens := hm.gens
          have ed : d' = s.drawn := hm.drawn
          have eo : os' = s.os := hm.os
          subst eg; subst ed; subst eo
          show wpAny _ _ _ _ _ _
          refine wpAny_pure ?_
          show wpAny _ _ (ret Value.none) _ _ _
          rw [hisz] at hc'
          refine wpAny_pure ⟨rfl, h', tk', c', rfl, hS', hc', fun b o e => ?_⟩
          have hb0 : b < s.heap.objs.size := Heap.lt_size e
          have hb1 : b ≠ s.heap.objs.size := Nat.ne_of_lt hb0
          have hb2 : b ≠ (s.heap.push { cls := .type "set", dict := none, data := .set #[] 0 (.fresh 0 0 (!w.params.followText "set-order")) }).objs.size := by
            rw [Heap.size_push]; exact Nat.ne_of_lt (Nat.lt_succ_of_lt hb0)
          exact hm.heap b o (by simp only [List.mem_cons, List.mem_singleton, List.not_mem_nil, or_false, not_or]; exact ⟨hb1, hb2⟩) (Heap.get?_push_of_some _ (Heap.get?_push_of_some _ e))

      · cases r₂ with
        | error e => exact hr₂
        | ok fl₂ =>
          cases fl₂ with
          | ret r =>
            obtain ⟨rfl, h', tk, c', rfl, hS', hc', hk'⟩ := hr₂
            repeat (any_goals (first | assumption | wp_step))
            exact h _ _ _ hS' hc' hk'
          | _ => exact hr₂.elim
    | _ => exact hr.elim

end
section
variable {X : Cx}
/-- set(xs), xs a list of ints -/
def rSetLI (K : PySem.W.Frag) (w : World) : List V → Hp → VK → Prop := fun vs H Q => ∃ (a : Addr) (ns : List Int), vs = [V.ref a] ∧ SqL K H a (ns.map V.int) ∧ ns.length + 1 < scanBound ∧
  ∀ (p : Addr) (c : Nat), H p = none → c ≤ ns.length → Q (.ref p) (upd H p (SetO w p (fun j => decide (j ∈ ns)) c))
theorem cr_setL (hcalm : X.calm = true) : CallR X (.type "set") (rSetLI X.K X.w) := by
  intro pins s σ H vs us Q I r h
  obtain ⟨a, ns, rfl, hs, hz, q⟩ := h
  obtain ⟨its, rv, hl, _⟩ := I.list hs
  rw [Vals.ref1 r]
  have hi : IntsAre its ns := ints_of_vals rv
  refine call_set_listI (items := its.toArray) ns (I.ok.hd hcalm) hl.isList (by simpa using hi) hz fun h' tk c R hc k => ?_
  exact ⟨.ref _, _, I.laid (t' := tk) (fun b u e => k b u e) (Nat.le_refl _) (setO_new R), rfl, q _ c (I.hok.fresh (Nat.le_refl _)) hc⟩
end
end PQ

/-! Dicts whose keys are tuples (nested too): what stands at their address, told without the keys' own tuples; look-ups and stores over the layer. -/
namespace PQ
open PySem PySem.Spec PyProof.Rows L2
mutual
/-- a value that is a key -/
def KyV (K : PySem.W.Frag) (H : Hp) : NestedKey → V → Prop
  | .none, v => v = .non
  | .num i, v => v = .int i
  | .text x, v => v = .str x
  | .tup ks, v => ∃ a vs, v = .ref a ∧ SqN K H a vs ∧ KyVs K H ks vs
def KyVs (K : PySem.W.Frag) (H : Hp) : List NestedKey → List V → Prop
  | [], vs => vs = []
  | k :: ks, vs => ∃ v r, vs = v :: r ∧ KyV K H k v ∧ KyVs K H ks r
end
section
variable {K : PySem.W.Frag} {H H' : Hp}
mutual
theorem KyV.mono (t : ∀ a xs, SqN K H a xs → SqN K H' a xs) : ∀ (k : NestedKey) (v : V), KyV K H k v → KyV K H' k v
  | .none, _, h => h
  | .num _, _, h => h
  | .text _, _, h => h
  | .tup ks, _, ⟨a, vs, h1, h2, h3⟩ => ⟨a, vs, h1, t _ _ h2, KyVs.mono t ks vs h3⟩
theorem KyVs.mono (t : ∀ a xs, SqN K H a xs → SqN K H' a xs) : ∀ (ks : List NestedKey) (vs : List V), KyVs K H ks vs → KyVs K H' ks vs
  | [], _, h => h
  | k :: ks, _, ⟨v, r, h1, h2, h3⟩ => ⟨v, r, h1, KyV.mono t k v h2, KyVs.mono t ks r h3⟩
end
end
section
variable {X : Cx} {pins : List (Addr × Obj)} {σ : L2.St} {H : Hp} {s : Shared}
mutual
theorem KyV.is (I : Inv X pins σ H s) : ∀ (k : NestedKey) (v : V) (u : Value), KyV X.K H k v → RelV v u → NestedIs s.heap k u
  | .none, _, u, h, r => by
    subst h
    obtain rfl : u = .none := r
    exact .none
  | .num i, _, u, h, r => by
    subst h
    obtain ⟨t, rfl⟩ := r
    exact .int i t
  | .text x, _, u, h, r => by
    subst h
    obtain ⟨t, rfl⟩ := r
    exact .text x t
  | .tup ks, _, u, ⟨a, vs, h1, h2, h3⟩, r => by
    subst h1
    obtain rfl : u = .ref a := r
    obtain ⟨its, rv, ⟨o, ho, hc, n, hd⟩, _⟩ := I.tuple h2.sq
    exact .tup ho hc hd (KyVs.is I ks vs its h3 rv)
theorem KyVs.is (I : Inv X pins σ H s) : ∀ (ks : List NestedKey) (vs : List V) (us : List Value), KyVs X.K H ks vs → Vals vs us → NestedAll s.heap ks us
  | [], _, us, h, r => by
    subst h
    cases r
    exact .nil
  | k :: ks, _, us, ⟨v, t, h1, h2, h3⟩, r => by
    subst h1
    cases r with
    | cons r1 r2 => exact .cons (KyV.is I k v _ h2 r1) (KyVs.is I ks t _ h3 r2)
end
end
/-- an entry of such a dict: the key, where its tuple stands, the value -/
abbrev TEn := NestedKey × Addr × Value
/-- the dict's own object -/
def RawT (P : Program) (w : World) (a : Addr) (xs : List TEn) (h : Heap) : Prop :=
  ∃ o es ep, h.get? a = some o ∧ o.ExactDict ∧ o.data = .dict es ep ∧ es.toList = xs.map (entryOfKey (nestedKind P w)) ∧ (xs.map (·.1)).Nodup
def TbO (P : Program) (w : World) (a : Addr) (xs : List TEn) : HO := .ext (RawT P w a xs)
/-- the keys' tuples stand where they are told to stand -/
def KysOk (K : PySem.W.Frag) (H : Hp) (xs : List TEn) : Prop := ∀ x ∈ xs, KyV K H x.1 (.ref x.2.1) ∧ x.1.depth ≤ 8
def TRd (K : PySem.W.Frag) (P : Program) (w : World) (H : Hp) (a : Addr) (xs : List TEn) : Prop := (H a = some (TbO P w a xs) ∧ (a == sysModules) = false ∧ KysOk K H xs) ∨ (H a = some (.dK []) ∧ xs = [])
theorem tb_new {P : Program} {w : World} {H : Hp} {h : Heap} {a : Addr} {xs : List TEn} (R : RawT P w a xs h) : ObjOk P w H h a (TbO P w a xs) := by
  obtain ⟨o, es, ep, h1, h2, h3, h4, h5⟩ := id R
  exact ⟨R, ⟨o, h1⟩, fun g1 g2 ⟨o, es, ep, h1, h2, h3, h4, h5⟩ k => ⟨o, es, ep, k o h1, h2, h3, h4, h5⟩⟩
section
variable {X : Cx} {pins : List (Addr × Obj)} {σ : L2.St} {H : Hp} {s : Shared} {a b : Addr} {xs : List TEn} {k : NestedKey} {A : Around} {E : Value → Shared → Prop}
theorem tb_at (I : Inv X pins σ H s) (e : H a = some (TbO X.prog X.w a xs)) (ky : KysOk X.K H xs) : s.heap.DictOfH (nestedKind X.prog X.w) a xs := by
  obtain ⟨o, es, ep, h1, h2, h3, h4, h5⟩ := (I.hok a _ e).1
  exact ⟨o, es, ep, h1, h2, h3, h4, fun x hx => ⟨KyV.is I x.1 _ _ (ky x hx).1 rfl, (ky x hx).2⟩, h5⟩
theorem key_at (I : Inv X pins σ H s) (hk : KyV X.K H k (.ref b)) (hd : k.depth ≤ 8) : (nestedKind X.prog X.w).is s.heap k b := ⟨KyV.is I k _ _ hk rfl, hd⟩
theorem t_getItem {p : Addr × Value} {Q : Value → Shared → Prop} (hu : A.units + 20 < cLine) (I : Inv X pins σ H s) (e : H a = some (TbO X.prog X.w a xs)) (ky : KysOk X.K H xs) (hk : KyV X.K H k (.ref b)) (hd : k.depth ≤ 8) (hp : atKey xs k = some p)
    (h : ∀ s', Inv X pins σ H s' → Q p.2 s') : wpAny (model X.prog X.w) A (getItem (.ref a) (.ref b)) Q E s :=
  wpAny_getItem_heap (knd := nestedKind X.prog X.w) (show A.in1.units + 8 < cLine by simp only [Around.in1_units]; omega) (key_at I hk hd) (tb_at I e ky) hp (h _ (I.tok _))
/-- an empty dict is one of these, too -/
theorem tb_empty (I : Inv X pins σ H s) (e : H a = some (.dK [])) : (a == sysModules) = false ∧ Inv X pins σ (upd H a (TbO X.prog X.w a [])) s := by
  obtain ⟨z, hd, vs, rel, o, es, ep, h1, h2, h3, h4, h5, h6⟩ := dk_of I.hok e
  refine ⟨hd, ?_⟩
  have hvs : vs = [] := by
    have := rel.length
    cases vs with
    | nil => rfl
    | cons x l => simp at this
  subst hvs
  have hes : es.toList = [] := by
    cases q : es.toList with
    | nil => rfl
    | cons x l => rw [q] at h5; cases h5
  have R : RawT X.prog X.w a [] s.heap := ⟨o, es, ep, h1, h2, h3, hes, List.nodup_nil⟩
  have := d_write (h' := s.heap) (t' := s.toks) I (by rw [e]; exact True.intro) ⟨rfl, fun _ _ => rfl⟩ ⟨o, h1⟩ (tb_new (H := upd H a (TbO X.prog X.w a [])) R)
  exact this
/-- such a dict, or an empty one -/
theorem trd_at (I : Inv X pins σ H s) (h : TRd X.K X.prog X.w H a xs) : (a == sysModules) = false ∧ s.heap.DictOfH (nestedKind X.prog X.w) a xs := by
  rcases h with ⟨e, hm, ky⟩ | ⟨e, rfl⟩
  · exact ⟨hm, tb_at I e ky⟩
  · obtain ⟨hm, I'⟩ := tb_empty I e
    exact ⟨hm, tb_at I' upd_same (fun x hx => nomatch hx)⟩
theorem t_in {Q : Value → Shared → Prop} (hu : A.units + 20 < cLine) (I : Inv X pins σ H s) (e : TRd X.K X.prog X.w H a xs) (hk : KyV X.K H k (.ref b)) (hd : k.depth ≤ 8)
    (h : ∀ s', Inv X pins σ H s' → Q (.bool (atKey xs k).isSome) s') : wpAny (model X.prog X.w) A (compareOp .In (.ref b) (.ref a)) Q E s :=
  wpAny_in_heap (knd := nestedKind X.prog X.w) (show A.in1.units + 8 < cLine by simp only [Around.in1_units]; omega) (key_at I hk hd) (trd_at I e).1 (trd_at I e).2 (h _ (I.tok _))
theorem t_notIn {Q : Value → Shared → Prop} (hu : A.units + 20 < cLine) (I : Inv X pins σ H s) (e : TRd X.K X.prog X.w H a xs) (hk : KyV X.K H k (.ref b)) (hd : k.depth ≤ 8)
    (h : ∀ s', Inv X pins σ H s' → Q (.bool (!(atKey xs k).isSome)) s') : wpAny (model X.prog X.w) A (compareOp .NotIn (.ref b) (.ref a)) Q E s :=
  wpAny_notIn_heap (knd := nestedKind X.prog X.w) (show A.in1.units + 8 < cLine by simp only [Around.in1_units]; omega) (key_at I hk hd) (trd_at I e).1 (trd_at I e).2 (h _ (I.tok _))
theorem t_getOr {x : Value} {Q : Value → Shared → Prop} (hu : A.units + 20 < cLine) (I : Inv X pins σ H s) (e : TRd X.K X.prog X.w H a xs) (hk : KyV X.K H k (.ref b)) (hd : k.depth ≤ 8)
    (h : ∀ s', Inv X pins σ H s' → Q (((atKey xs k).map (·.2)).getD x) s') : wpAny (model X.prog X.w) A (call (.builtin "dict.get") [.ref a, .ref b, x]) Q E s :=
  call_meetsIn F.slot_dict_get (trd_at I e).2.typeIs F.entry_dict_get (F.args_dict_get_3 _ _ _) (meetsH_dict_get_default (nestedKind X.prog X.w) a b (trd_at I e).1 x) ⟨show A.in1.units + 8 < cLine by simp only [Around.in1_units]; omega, k, xs, key_at I hk hd, (trd_at I e).2, h _ (I.tok _)⟩
theorem t_getOr1 {Q : Value → Shared → Prop} (hu : A.units + 20 < cLine) (I : Inv X pins σ H s) (e : TRd X.K X.prog X.w H a xs) (hk : KyV X.K H k (.ref b)) (hd : k.depth ≤ 8)
    (h : ∀ s', Inv X pins σ H s' → Q (((atKey xs k).map (·.2)).getD .none) s') : wpAny (model X.prog X.w) A (call (.builtin "dict.get") [.ref a, .ref b]) Q E s :=
  call_meetsIn F.slot_dict_get (trd_at I e).2.typeIs F.entry_dict_get (F.args_dict_get_2 _ _) (meetsH_dict_get (nestedKind X.prog X.w) a b (trd_at I e).1) ⟨show A.in1.units + 8 < cLine by simp only [Around.in1_units]; omega, k, xs, key_at I hk hd, (trd_at I e).2, h _ (I.tok _)⟩
/-- the object after a store -/
theorem raw_of {P : Program} {w : World} {h : Heap} {a : Addr} {xs : List TEn} (d : h.DictOfH (nestedKind P w) a xs) : RawT P w a xs h := by
  obtain ⟨o, es, ep, h1, h2, h3, h4, _, h5⟩ := d
  exact ⟨o, es, ep, h1, h2, h3, h4, h5⟩
theorem trd_mut {K : PySem.W.Frag} {P : Program} {w : World} (h : TRd K P w H a xs) : Mut (H a) := by
  rcases h with ⟨e, _⟩ | ⟨e, _⟩
  · rw [e]; exact True.intro
  · rw [e]; exact True.intro
theorem t_setItem {r : Value} {Q : Unit → Shared → Prop} (hu : A.units + 20 < cLine) (I : Inv X pins σ H s) (e : TRd X.K X.prog X.w H a xs) (hk : KyV X.K H k (.ref b)) (hd : k.depth ≤ 8) (hl : xs.length ≤ sizeLine)
    (h : ∀ s', Inv X pins σ (upd H a (TbO X.prog X.w a (storedH xs k b r))) s' → Q () s') : wpAny (model X.prog X.w) A (setItem (.ref a) (.ref b) r) Q E s :=
  wpAny_setItem_heap (knd := nestedKind X.prog X.w) (hsz := hl) (show A.in1.units + 8 < cLine by simp only [Around.in1_units]; omega) (key_at I hk hd) (trd_at I e).2 fun h' dd' hs => h _ (by
    have R := raw_of dd'
    obtain ⟨q, _, _, hq, _⟩ := id R
    exact d_write I (trd_mut e) hs ⟨q, hq⟩ (tb_new R))
theorem t_setDefault {r : Value} {Q : Value → Shared → Prop} (hu : A.units + 20 < cLine) (I : Inv X pins σ H s) (e : TRd X.K X.prog X.w H a xs) (hk : KyV X.K H k (.ref b)) (hd : k.depth ≤ 8) (hl : xs.length ≤ sizeLine)
    (h1 : ∀ p s', atKey xs k = some p → Inv X pins σ H s' → Q p.2 s') (h2 : ∀ s', atKey xs k = none → Inv X pins σ (upd H a (TbO X.prog X.w a (storedH xs k b r))) s' → Q r s') : wpAny (model X.prog X.w) A (call (.builtin "dict.setdefault") [.ref a, .ref b, r]) Q E s :=
  call_setdefault_heap (knd := nestedKind X.prog X.w) (hsz := hl) (show A.in1.units + 8 < cLine by simp only [Around.in1_units]; omega) (key_at I hk hd) (trd_at I e).1 (trd_at I e).2 (fun p hp => h1 p _ hp (I.tok _)) fun hn h' dd' hs => h2 _ hn (by
    have R := raw_of dd'
    obtain ⟨q, _, _, hq, _⟩ := id R
    exact d_write I (trd_mut e) hs ⟨q, hq⟩ (tb_new R))
/-- a is a dict of any kind -/
def IsDT (P : Program) (w : World) (H : Hp) (a : Addr) : Prop := IsD H a ∨ ∃ xs, H a = some (TbO P w a xs)
theorem isDT_at (I : Inv X pins σ H s) (d : IsDT X.prog X.w H a) : s.TypeIs (.ref a) "dict" ∧ (∀ b, Value.ref a = .ref b → ∃ ob, s.heap.get? b = some ob ∧ ob.dict = none) := by
  rcases d with d | ⟨xs, e⟩
  · exact ⟨(isD_at I d).1, (isD_at I d).2.1⟩
  · obtain ⟨o, es, ep, h1, h2, h3, h4, h5⟩ := (I.hok a _ e).1
    refine ⟨⟨o, h1, h2.1⟩, fun b q => ?_⟩
    cases q
    exact ⟨o, h1, h2.2.1⟩
def rTGet (K : PySem.W.Frag) (P : Program) (w : World) (a : Addr) (y z : V) (H : Hp) (Q : VK) : Prop := (∃ o, DGet H a y o ∧ Q (o.getD z) H) ∨ ∃ (xs : List TEn) (k : NestedKey) (b : Addr), TRd K P w H a xs ∧ y = .ref b ∧ KyV K H k (.ref b) ∧ k.depth ≤ 8 ∧ ((atKey xs k = none ∧ Q z H) ∨ ∃ p v, atKey xs k = some p ∧ RelV v p.2 ∧ Q v H)
end
section
variable {X : Cx} {o e f : Expr} {apos cpos : Pos} {td ty tx : TE}
def tTGet2 (K : PySem.W.Frag) (P : Program) (w : World) (td ty tx : TE) : TE := fun σ H Q => td σ H fun x H1 => ∃ a, x = .ref a ∧ IsDT P w H1 a ∧ ty σ H1 fun y H2 => tx σ H2 fun z H3 => rTGet K P w a y z H3 Q
theorem pe_tget2 (hu : X.A.units + 30 < cLine) (ho : PE X o td) (he : PE X e ty) (hf : PE X f tx) (m : M2 X o "get" apos e f cpos) : PE X (.Call (.Attribute o "get" apos) [e, f] [] cpos) (tTGet2 X.K X.prog X.w td ty tx) := by
  refine ⟨fun pins s σ H Q I h => ?_⟩
  refine wpAny_Call_method m.base m.few m.line PySem.F.plainAttrs_dict PySem.F.slot_dict_get PySem.F.type_dict_get (thn (ho.run pins s σ H _ I h) fun u s1 ⟨x, H1, I1, rx, a, ex, d, q1⟩ => ?_)
  subst ex
  obtain rfl : u = Value.ref a := rx
  obtain ⟨t1, t2⟩ := isDT_at I1 d
  refine ⟨t1, t2, ?_⟩
  rw [m.trees]
  refine Calls.callWith_builtin rfl (Calls.evalArgs_plain (Calls.spliced_cons (thn (he.run pins s1 σ H1 _ I1 q1) fun iv s2 ⟨y, H2, I2, ry, q2⟩ =>
    Calls.spliced_cons (thn (hf.run pins s2 σ H2 _ I2 q2) fun fv s3 ⟨z, H3, I3, rz, q3⟩ => Calls.spliced_nil ?_))))
  rcases q3 with ⟨ov, g, q3⟩ | ⟨xs, k, b, e1, rfl, e2, e3, q3⟩
  · exact d_get2 (by omega) I3 g ry rz fun w' s4 I4 rw' => ⟨_, H3, I4, rw', q3⟩
  · obtain rfl : iv = Value.ref b := ry
    refine t_getOr (by omega) I3 e1 e2 e3 fun s4 I4 => ?_
    rcases q3 with ⟨n, q3⟩ | ⟨p, v, n, rv, q3⟩
    · rw [n]
      exact ⟨z, H3, I4, rz, q3⟩
    · rw [n]
      exact ⟨v, H3, I4, rv, q3⟩
/-- d.get(k) -/
def tTGet1 (K : PySem.W.Frag) (P : Program) (w : World) (td ty : TE) : TE := fun σ H Q => td σ H fun x H1 => ∃ a, x = .ref a ∧ IsDT P w H1 a ∧ ty σ H1 fun y H2 => rTGet K P w a y .non H2 Q
theorem pe_tget1 (hu : X.A.units + 30 < cLine) (ho : PE X o td) (he : PE X e ty) (m : M1 X o "get" apos e cpos) : PE X (.Call (.Attribute o "get" apos) [e] [] cpos) (tTGet1 X.K X.prog X.w td ty) := by
  refine ⟨fun pins s σ H Q I h => ?_⟩
  refine wpAny_Call_method m.base m.few m.line PySem.F.plainAttrs_dict PySem.F.slot_dict_get PySem.F.type_dict_get (thn (ho.run pins s σ H _ I h) fun u s1 ⟨x, H1, I1, rx, a, ex, d, q1⟩ => ?_)
  subst ex
  obtain rfl : u = Value.ref a := rx
  obtain ⟨t1, t2⟩ := isDT_at I1 d
  refine ⟨t1, t2, ?_⟩
  rw [m.trees]
  refine Calls.callWith_builtin rfl (Calls.evalArgs_plain (Calls.spliced_cons (thn (he.run pins s1 σ H1 _ I1 q1) fun iv s2 ⟨y, H2, I2, ry, q3⟩ => Calls.spliced_nil ?_)))
  rcases q3 with ⟨ov, g, q3⟩ | ⟨xs, k, b, e1, rfl, e2, e3, q3⟩
  · exact d_get1 (by omega) I2 g ry fun w' s4 I4 rw' => ⟨_, H2, I4, rw', q3⟩
  · obtain rfl : iv = Value.ref b := ry
    refine t_getOr1 (by omega) I2 e1 e2 e3 fun s4 I4 => ?_
    rcases q3 with ⟨n, q3⟩ | ⟨p, v, n, rv, q3⟩
    · rw [n]
      exact ⟨.non, H2, I4, rfl, q3⟩
    · rw [n]
      exact ⟨v, H2, I4, rv, q3⟩
/-- d.setdefault(k, x) -/
def rTSet (K : PySem.W.Frag) (P : Program) (w : World) (a : Addr) (y z : V) (H : Hp) (Q : VK) : Prop := (∃ kvs k, H a = some (.dK kvs) ∧ y = kV k ∧ kvs.length < sizeLine ∧ ((∃ v, valV kvs k = some v ∧ Q v H) ∨ (valV kvs k = none ∧ Q z (upd H a (.dK (putK kvs k z)))))) ∨
  ∃ (xs : List TEn) (k : NestedKey) (b : Addr), TRd K P w H a xs ∧ y = .ref b ∧ KyV K H k (.ref b) ∧ k.depth ≤ 8 ∧ xs.length ≤ sizeLine ∧ ((∃ p v, atKey xs k = some p ∧ RelV v p.2 ∧ Q v H) ∨ (atKey xs k = none ∧ ∀ u, RelV z u → (a == sysModules) = false → Q z (upd H a (TbO P w a (storedH xs k b u)))))
def tTSet (K : PySem.W.Frag) (P : Program) (w : World) (td ty tx : TE) : TE := fun σ H Q => td σ H fun x H1 => ∃ a, x = .ref a ∧ IsDT P w H1 a ∧ ty σ H1 fun y H2 => tx σ H2 fun z H3 => rTSet K P w a y z H3 Q
theorem pe_tset (hu : X.A.units + 30 < cLine) (ho : PE X o td) (he : PE X e ty) (hf : PE X f tx) (m : M2 X o "setdefault" apos e f cpos) : PE X (.Call (.Attribute o "setdefault" apos) [e, f] [] cpos) (tTSet X.K X.prog X.w td ty tx) := by
  refine ⟨fun pins s σ H Q I h => ?_⟩
  refine wpAny_Call_method m.base m.few m.line PySem.F.plainAttrs_dict PySem.F.slot_dict_setdefault PySem.F.type_dict_setdefault (thn (ho.run pins s σ H _ I h) fun u s1 ⟨x, H1, I1, rx, a, ex, d, q1⟩ => ?_)
  subst ex
  obtain rfl : u = Value.ref a := rx
  obtain ⟨t1, t2⟩ := isDT_at I1 d
  refine ⟨t1, t2, ?_⟩
  rw [m.trees]
  refine Calls.callWith_builtin rfl (Calls.evalArgs_plain (Calls.spliced_cons (thn (he.run pins s1 σ H1 _ I1 q1) fun iv s2 ⟨y, H2, I2, ry, q2⟩ =>
    Calls.spliced_cons (thn (hf.run pins s2 σ H2 _ I2 q2) fun fv s3 ⟨z, H3, I3, rz, q3⟩ => Calls.spliced_nil ?_))))
  rcases q3 with ⟨kvs, k, e1, rfl, hl, q3⟩ | ⟨xs, k, b, e1, rfl, e2, e3, e4, q3⟩
  · refine d_setd I3 e1 ry rz hl (fun v hv w' s' I' rw' => ?_) fun hn w' s' I' rw' => ?_
    · rcases q3 with ⟨v', n, q3⟩ | ⟨n, _⟩
      · rw [n] at hv
        cases hv
        exact ⟨_, H3, I', rw', q3⟩
      · rw [n] at hv; cases hv
    · rcases q3 with ⟨v', n, _⟩ | ⟨n, q3⟩
      · rw [n] at hn; cases hn
      · exact ⟨_, _, I', rw', q3⟩
  · obtain rfl : iv = Value.ref b := ry
    refine t_setDefault (by omega) I3 e1 e2 e3 e4 (fun p s' hp I' => ?_) fun s' hn I' => ?_
    · rcases q3 with ⟨p', v, n, rv, q3⟩ | ⟨n, _⟩
      · rw [n] at hp
        cases hp
        exact ⟨v, H3, I', rv, q3⟩
      · rw [n] at hp; cases hp
    · rcases q3 with ⟨p', v, n, _⟩ | ⟨n, q3⟩
      · rw [n] at hn; cases hn
      · exact ⟨z, _, I', rz, q3 _ rz (trd_at I3 e1).1⟩
end
end PQ

/-! tuple * int, any number. -/
namespace PQ
open PySem PySem.Spec PyProof.Rows L2
theorem tuple_mul1 (l : Addr) (items : Array Value) (n : Nat) (dd : Option Addr) (sl : Array (Option Value)) (x : Int) (u : Tok) (c0 : (decide (x < -(2 ^ 63)) || decide (x ≥ 2 ^ 63)) = false) (c1 : (items.isEmpty || x == 1) = true) :
    Meets (Builtin.«tuple.__mul__» ⟨[.ref l, .int x u], []⟩) (fun _ R s => s.heap.get? l = some { cls := .type "tuple", dict := dd, data := .seq items n, slots := sl } ∧ R (.ok (.ret (Value.ref l))) s) :=
  .of_wp fun prog w A R s h => by
    obtain ⟨hp, g, d, tk, os⟩ := s
    obtain ⟨hx, h⟩ := h
    have f1 := AutoSeq1.idx_int
    wp_walk using wpAny_loadPart' hx
    repeat (first
      | (refine wpAny_ite_false (decide_eq_false (by rw [c0]; exact Bool.false_ne_true)) ?_; wp_walk using wpAny_loadPart' hx)
      | (refine wpAny_ite_true (decide_eq_true c1) ?_; wp_walk using wpAny_loadPart' hx))
    exact ⟨_, rfl, h⟩
theorem tuple_mul0 (l : Addr) (items : Array Value) (n : Nat) (dd : Option Addr) (sl : Array (Option Value)) (x : Int) (u : Tok) (c0 : (decide (x < -(2 ^ 63)) || decide (x ≥ 2 ^ 63)) = false) (c1 : (items.isEmpty || x == 1) = false) (c2 : (decide (x ≤ 0) || items.isEmpty) = true) :
    Meets (Builtin.«tuple.__mul__» ⟨[.ref l, .int x u], []⟩) (fun _ R s => s.heap.get? l = some { cls := .type "tuple", dict := dd, data := .seq items n, slots := sl } ∧
      R (.ok (.ret (Value.ref s.heap.objs.size))) { s with heap := s.heap.push { cls := Value.type "tuple", data := Data.seq #[] }, toks := s.toks }) :=
  .of_wp fun prog w A R s h => by
    obtain ⟨hp, g, d, tk, os⟩ := s
    obtain ⟨hx, h⟩ := h
    have f1 := AutoSeq1.idx_int
    wp_walk using wpAny_loadPart' hx
    repeat (first
      | (refine wpAny_ite_false (decide_eq_false (by rw [c0]; exact Bool.false_ne_true)) ?_; wp_walk using wpAny_loadPart' hx)
      | (refine wpAny_ite_false (decide_eq_false (by rw [c1]; exact Bool.false_ne_true)) ?_; wp_walk using wpAny_loadPart' hx)
      | (refine wpAny_ite_true (decide_eq_true c2) ?_; wp_walk using wpAny_loadPart' hx))
    exact ⟨_, rfl, h⟩
def rRepN (K : PySem.W.Frag) : R2 := fun x y H Q => ∃ l k xs, x = .ref l ∧ y = .int k ∧ SqT K H l xs ∧ -(2 ^ 63) ≤ k ∧ k ≤ 1000 ∧ xs.length ≤ 1000 ∧
  ((xs = [] ∨ k = 1) → Q (.ref l) H) ∧ (xs ≠ [] → k ≠ 1 → NwT H Q (List.replicate k.toNat xs).flatten)
section
variable {X : Cx}
theorem op_repN : OpR X (binaryOp .Mult) (rRepN X.K) := by
  intro pins s σ H x y v u Q I rx ry h
  obtain ⟨l, k, xs, rfl, rfl, hT, h1, h2, hz, q1, q2⟩ := h
  cases rx
  obtain ⟨t, rfl⟩ := ry
  obtain ⟨jt, r, ⟨⟨cls, dd, data, sl⟩, hy, hc, n, hd⟩, hs⟩ := I.tuple hT
  simp only at hc hd
  subst hc hd
  have hq1 : jt.length = xs.length := r.length.symm
  have hq2 : jt.toArray.size = xs.length := by rw [List.size_toArray, hq1]
  have c0 : (decide (k < -(2 ^ 63)) || decide (k ≥ 2 ^ 63)) = false := by
    rw [decide_eq_false (by omega), decide_eq_false (by omega)] <;> rfl
  refine wpAny_binaryOp_repeat_ref (T := "tuple") (U := "int") (by decide) ⟨_, hy, rfl⟩ (fun s' => typeIs_int s' k t) noFill_tuple_mul F.fills_int_mul F.slot_int_rmul repeat_tuple F.slot_int_index.lookup
    (call_meets F.slot_int_rmul (typeIs_int s k t) F.entry_int_rmul (F.args_int_rmul_2 _ _) (int_rmul_tuple k t l jt.toArray n dd sl) ⟨hy, rfl, ⟨_, hy, rfl⟩, ?_⟩)
  by_cases c : xs = [] ∨ k = 1
  · refine call_meets F.slot_tuple_mul ⟨_, hy, rfl⟩ F.entry_tuple_mul (F.args_tuple_mul_2 _ _) (tuple_mul1 l jt.toArray n dd sl k t c0 ?_) ⟨hy, .ref l, H, I, rfl, q1 c⟩
    rcases c with c | c
    · rw [c] at hq1
      rw [List.eq_nil_of_length_eq_zero hq1]
      rfl
    · rw [c]
      simp
  · have c' : xs ≠ [] ∧ k ≠ 1 := ⟨fun z => c (.inl z), fun z => c (.inr z)⟩
    have hn : jt ≠ [] := fun e => c'.1 (by
      rw [e] at hq1
      exact List.eq_nil_of_length_eq_zero hq1.symm)
    have hi : jt.toArray.isEmpty = false := by
      cases jt with
      | nil => exact absurd rfl hn
      | cons a b => rfl
    have c1 : (jt.toArray.isEmpty || k == 1) = false := by
      rw [hi, Bool.false_or]
      exact beq_eq_false_iff_ne.mpr c'.2
    have fq1 : (List.replicate k.toNat jt).flatten.length ≤ sizeLine := by
      rw [PyProof.Rows.lm_len_rep_flat, hq1, sizeLine_eq]
      have a1 : k.toNat * xs.length ≤ 1000 * 1000 := Nat.mul_le_mul (by omega) hz
      omega
    have fq2 : (List.replicate k.toNat xs).flatten.length ≤ sizeLine := by
      rw [PyProof.Rows.lm_len_rep_flat, sizeLine_eq]
      have a1 : k.toNat * xs.length ≤ 1000 * 1000 := Nat.mul_le_mul (by omega) hz
      omega
    have fin : ∀ its2 : List Value, Vals (List.replicate k.toNat xs).flatten its2 → EP X pins σ Q (.ref s.heap.objs.size) { s with heap := s.heap.push { cls := .type "tuple", data := .seq its2.toArray } } := fun its2 r2 => by
      have hg := Heap.get?_push_size (h := s.heap) (o := ({ cls := .type "tuple", data := .seq its2.toArray } : Obj)) rfl
      refine ⟨.ref s.heap.objs.size, _, I.laid (t' := s.toks) (o := .frz { cls := .type "tuple", data := .seq its2.toArray } (.tup (List.replicate k.toNat xs).flatten)) (fun b ob q => Heap.get?_push_of_some _ q) (Nat.le_refl _) ?_, rfl, q2 c'.1 c'.2 _ _ (I.hok.fresh (Nat.le_refl _)) rfl rfl⟩
      exact ⟨hg, fq2, _, r2, ⟨_, hg, rfl, _, rfl⟩⟩
    by_cases c3 : k ≤ 0
    · refine call_meets F.slot_tuple_mul ⟨_, hy, rfl⟩ F.entry_tuple_mul (F.args_tuple_mul_2 _ _) (tuple_mul0 l jt.toArray n dd sl k t c0 c1 ?_) ⟨hy, ?_⟩
      · rw [decide_eq_true c3]
        rfl
      · refine fin [] ?_
        rw [show k.toNat = 0 by omega]
        exact .nil
    · have hm : ((jt.toArray.size : Nat) : Int) * k ≤ 1000000 := by
        rw [hq2]
        have a1 : ((xs.length : Nat) : Int) * k ≤ 1000 * k := Int.mul_le_mul_of_nonneg_right (by omega) (by omega)
        omega
      have c2 : (decide (k ≤ 0) || jt.toArray.isEmpty) = false := by
        rw [hi, Bool.or_false]
        exact decide_eq_false c3
      have c4 : Builtin.Tuple.tupleTooMany (((jt.toArray.size : Nat) : Int) * k) = false := by
        unfold Builtin.Tuple.tupleTooMany
        rw [sizeLine_eq]
        exact decide_eq_false (by omega)
      refine call_meets F.slot_tuple_mul ⟨_, hy, rfl⟩ F.entry_tuple_mul (F.args_tuple_mul_2 _ _) (tuple_mulW l jt.toArray n dd sl k t c0 c1 c2 (by omega) c4 (by rw [size_rep, List.size_toArray]; exact fq1)) ⟨hy, ?_⟩
      rw [size_rep]
      exact fin _ (r.rep k.toNat)
end
end PQ

/-! A small language of pure data and stores, and what it says of the machine. -/
namespace PQ
open PySem PySem.Spec PyProof.Rows L2

/-- data: what a Python value is worth, tuples by their items, changeable lists by a number in the store -/
inductive D where
  | non
  | bl (b : Bool)
  | int (i : Int)
  | str (x : Str)
  | tup (ds : List D)
  | ref (i : Nat)
  | fix (ds : List D)
/-- what stands in the store -/
inductive Ob where
  | lst (ds : List D)
  | dic (kvs : List (Key × D))
  /-- a dict that stands still while it is walked -/
  | frd (kvs : List (Key × D))
  /-- a dict whose keys are tuples -/
  | dkt (kvs : List (NestedKey × D))
abbrev Sto := List Ob
abbrev En := List (Option D)
/-- what is known of the run: the fixed objects, the program, the world -/
structure Fg where
  k : PySem.W.Frag
  P : Program
  w : World
instance : CoeOut Fg PySem.W.Frag := ⟨Fg.k⟩
abbrev fgX (X : L2.Cx) : Fg := ⟨X.K, X.prog, X.w⟩

/-- a list that nobody changes -/
def Fix (K : Fg) (H : Hp) (a : Addr) (xs : List V) : Prop :=
  (∃ o, H a = some (.frz o (.lst xs))) ∨
    ∃ (o : Obj) (its : Array Value) (n : Nat), K.k.lookup a = some o ∧ o.cls = .type "list" ∧ o.dict = none ∧ o.data = .seq its n ∧ its.size ≤ sizeLine ∧ Vals xs its.toList
theorem Fix.sq {K : Fg} {H : Hp} {a : Addr} {xs : List V} (h : Fix K H a xs) : SqL K H a xs := by
  rcases h with ⟨o, h⟩ | h
  · exact .inl (.inr ⟨o, h⟩)
  · exact .inr h

mutual
def Rp (K : Fg) (μ : List Addr) (H : Hp) : D → V → Prop
  | .non, v => v = .non
  | .bl b, v => v = .bl b
  | .int i, v => v = .int i
  | .str x, v => v = .str x
  | .tup ds, v => ∃ a vs, v = .ref a ∧ SqN K H a vs ∧ RpA K μ H ds vs ∧ ds.length ≤ sizeLine
  | .ref i, v => ∃ a, v = .ref a ∧ μ[i]? = some a
  | .fix ds, v => ∃ a vs, v = .ref a ∧ Fix K H a vs ∧ RpA K μ H ds vs ∧ ds.length ≤ sizeLine
def RpA (K : Fg) (μ : List Addr) (H : Hp) : List D → List V → Prop
  | [], vs => vs = []
  | d :: ds, vs => ∃ v r, vs = v :: r ∧ Rp K μ H d v ∧ RpA K μ H ds r
end

section
variable {K : Fg} {μ μ' μ1 μ2 : List Addr} {H H' H1 H2 : Hp} {S S' : Sto} {σ σ' : L2.St} {ρ : En}

/-- what a run may do to the machine: new things, and changes at the store's own addresses -/
structure Ext (K : Fg) (μ : List Addr) (H : Hp) (μ' : List Addr) (H' : Hp) : Prop where
  pre : ∃ l, μ' = μ ++ l ∧ ∀ a ∈ l, H a = none
  alive : ∀ a, H' a = none → H a = none
  fr : ∀ a o, H a = some o → a ∉ μ → H' a = some o
  tup : ∀ a xs, SqN K H a xs → SqN K H' a xs
  fix : ∀ a xs, Fix K H a xs → Fix K H' a xs
  frd : ∀ a o vs, H a = some (.frz o (.dK vs)) → H' a = some (.frz o (.dK vs))
theorem Ext.refl : Ext K μ H μ H := ⟨⟨[], by simp, fun a h => nomatch h⟩, fun _ h => h, fun _ _ h _ => h, fun _ _ h => h, fun _ _ h => h, fun _ _ _ h => h⟩
theorem Ext.trans (a : Ext K μ H μ1 H1) (b : Ext K μ1 H1 μ2 H2) : Ext K μ H μ2 H2 := by
  obtain ⟨l, e, n⟩ := a.pre
  obtain ⟨l', e', n'⟩ := b.pre
  refine ⟨⟨l ++ l', by rw [e', e, List.append_assoc], fun c hc => ?_⟩, fun c h => a.alive c (b.alive c h), fun c o h hc => ?_, fun c xs h => b.tup c xs (a.tup c xs h), fun c xs h => b.fix c xs (a.fix c xs h), fun c o vs h => b.frd c o vs (a.frd c o vs h)⟩
  · rcases List.mem_append.mp hc with h | h
    · exact n c h
    · exact a.alive c (n' c h)
  · refine b.fr c o (a.fr c o h hc) fun hm => ?_
    rw [e] at hm
    rcases List.mem_append.mp hm with hm | hm
    · exact hc hm
    · rw [n c hm] at h; cases h
theorem Ext.get (e : Ext K μ H μ' H') {i : Nat} {a : Addr} (h : μ[i]? = some a) : μ'[i]? = some a := by
  obtain ⟨l, rfl, _⟩ := e.pre
  rw [List.getElem?_append_left (List.getElem?_eq_some_iff.mp h).1]
  exact h
theorem Ext.len (e : Ext K μ H μ' H') : μ.length ≤ μ'.length := by
  obtain ⟨l, rfl, _⟩ := e.pre
  rw [List.length_append]
  omega

/-- what is represented stays represented -/
structure Le (K : Fg) (μ : List Addr) (H : Hp) (μ' : List Addr) (H' : Hp) : Prop where
  get : ∀ (i : Nat) a, μ[i]? = some a → μ'[i]? = some a
  tup : ∀ a xs, SqN K H a xs → SqN K H' a xs
  fix : ∀ a xs, Fix K H a xs → Fix K H' a xs
theorem Ext.le (e : Ext K μ H μ' H') : Le K μ H μ' H' := ⟨fun _ _ h => e.get h, e.tup, e.fix⟩
theorem Le.more (l : List Addr) : Le K μ H (μ ++ l) H := ⟨fun i a h => by
  rw [List.getElem?_append_left (List.getElem?_eq_some_iff.mp h).1]
  exact h, fun _ _ h => h, fun _ _ h => h⟩
mutual
theorem Rp.le (e : Le K μ H μ' H') : ∀ (d : D) (v : V), Rp K μ H d v → Rp K μ' H' d v
  | .non, _, h => h
  | .bl _, _, h => h
  | .int _, _, h => h
  | .str _, _, h => h
  | .tup ds, _, ⟨a, vs, h1, h2, h3, h4⟩ => ⟨a, vs, h1, e.tup _ _ h2, RpA.le e ds vs h3, h4⟩
  | .ref _, _, ⟨a, h1, h2⟩ => ⟨a, h1, e.get _ _ h2⟩
  | .fix ds, _, ⟨a, vs, h1, h2, h3, h4⟩ => ⟨a, vs, h1, e.fix _ _ h2, RpA.le e ds vs h3, h4⟩
theorem RpA.le (e : Le K μ H μ' H') : ∀ (ds : List D) (vs : List V), RpA K μ H ds vs → RpA K μ' H' ds vs
  | [], _, h => h
  | d :: ds, _, ⟨v, r, h1, h2, h3⟩ => ⟨v, r, h1, Rp.le e d v h2, RpA.le e ds r h3⟩
end
theorem Rp.mono (e : Ext K μ H μ' H') {d : D} {v : V} (h : Rp K μ H d v) : Rp K μ' H' d v := Rp.le e.le d v h
theorem RpA.mono (e : Ext K μ H μ' H') {ds : List D} {vs : List V} (h : RpA K μ H ds vs) : RpA K μ' H' ds vs := RpA.le e.le ds vs h
theorem RpA.nil : RpA K μ H [] [] := rfl
theorem RpA.cons {d : D} {v : V} {ds : List D} {vs : List V} (h : Rp K μ H d v) (t : RpA K μ H ds vs) : RpA K μ H (d :: ds) (v :: vs) := ⟨v, vs, rfl, h, t⟩
theorem RpA.length : ∀ {ds : List D} {vs : List V}, RpA K μ H ds vs → ds.length = vs.length
  | [], _, h => by rw [h]; rfl
  | _ :: ds, _, ⟨v, r, h1, _, h3⟩ => by rw [h1, List.length_cons, List.length_cons, RpA.length h3]
theorem RpA.get : ∀ {ds : List D} {vs : List V} {i : Nat} {d : D}, RpA K μ H ds vs → ds[i]? = some d → ∃ v, vs[i]? = some v ∧ Rp K μ H d v
  | d :: ds, _, 0, _, ⟨v, r, h1, h2, _⟩, e => by
    cases e
    exact ⟨v, by rw [h1]; rfl, h2⟩
  | _ :: ds, _, i + 1, d, ⟨v, r, h1, _, h3⟩, e => by
    obtain ⟨x, e1, e2⟩ := RpA.get (i := i) h3 e
    exact ⟨x, by rw [h1]; exact e1, e2⟩
theorem RpA.getV : ∀ {ds : List D} {vs : List V} {i : Nat} {v : V}, RpA K μ H ds vs → vs[i]? = some v → ∃ d, ds[i]? = some d ∧ Rp K μ H d v
  | [], _, _, _, h, e => by rw [h] at e; cases e
  | d :: ds, _, 0, _, ⟨v, r, h1, h2, _⟩, e => by
    rw [h1] at e
    cases e
    exact ⟨d, rfl, h2⟩
  | _ :: ds, _, i + 1, v, ⟨_, r, h1, _, h3⟩, e => by
    rw [h1] at e
    obtain ⟨x, e1, e2⟩ := RpA.getV (i := i) h3 e
    exact ⟨x, e1, e2⟩
theorem RpA.append : ∀ {ds es : List D} {vs us : List V}, RpA K μ H ds vs → RpA K μ H es us → RpA K μ H (ds ++ es) (vs ++ us)
  | [], _, _, _, h, t => by rw [h]; exact t
  | _ :: ds, _, _, _, ⟨v, r, h1, h2, h3⟩, t => by rw [h1]; exact ⟨v, _, rfl, h2, RpA.append h3 t⟩
theorem RpA.set {d : D} {v : V} (hd : Rp K μ H d v) : ∀ {ds : List D} {vs : List V} (i : Nat), RpA K μ H ds vs → RpA K μ H (ds.set i d) (vs.set i v)
  | [], _, _, h => by rw [h]; exact rfl
  | _ :: ds, _, 0, ⟨w, r, h1, h2, h3⟩ => by rw [h1]; exact ⟨v, r, rfl, hd, h3⟩
  | _ :: ds, _, i + 1, ⟨w, r, h1, h2, h3⟩ => by rw [h1]; exact ⟨w, _, rfl, h2, RpA.set hd i h3⟩
theorem RpA.take : ∀ {ds : List D} {vs : List V} (n : Nat), RpA K μ H ds vs → RpA K μ H (ds.take n) (vs.take n)
  | _, _, 0, _ => rfl
  | [], _, _ + 1, h => by rw [h]; exact rfl
  | _ :: ds, _, n + 1, ⟨w, r, h1, h2, h3⟩ => by rw [h1]; exact ⟨w, _, rfl, h2, RpA.take n h3⟩
theorem RpA.drop : ∀ {ds : List D} {vs : List V} (n : Nat), RpA K μ H ds vs → RpA K μ H (ds.drop n) (vs.drop n)
  | _, _, 0, h => h
  | [], _, _ + 1, h => by rw [h]; exact rfl
  | _ :: ds, _, n + 1, ⟨w, r, h1, h2, h3⟩ => by rw [h1]; exact RpA.drop n h3
theorem RpA.eraseIdx : ∀ {ds : List D} {vs : List V} (n : Nat), RpA K μ H ds vs → RpA K μ H (ds.eraseIdx n) (vs.eraseIdx n)
  | [], _, _, h => by rw [h]; exact rfl
  | _ :: ds, _, 0, ⟨w, r, h1, h2, h3⟩ => by rw [h1]; exact h3
  | _ :: ds, _, n + 1, ⟨w, r, h1, h2, h3⟩ => by rw [h1]; exact ⟨w, _, rfl, h2, RpA.eraseIdx n h3⟩
theorem RpA.reverse : ∀ {ds : List D} {vs : List V}, RpA K μ H ds vs → RpA K μ H ds.reverse vs.reverse
  | [], _, h => by rw [h]; exact rfl
  | d :: ds, _, ⟨w, r, h1, h2, h3⟩ => by
    rw [h1, List.reverse_cons, List.reverse_cons]
    exact RpA.append (RpA.reverse h3) (.cons h2 .nil)

/-- a dict's pairs -/
def RpK (K : Fg) (μ : List Addr) (H : Hp) : List (Key × D) → List (Key × V) → Prop
  | [], vs => vs = []
  | kd :: r, vs => ∃ v t, vs = (kd.1, v) :: t ∧ Rp K μ H kd.2 v ∧ RpK K μ H r t
theorem RpK.le (e : Le K μ H μ' H') : ∀ (ks : List (Key × D)) (vs : List (Key × V)), RpK K μ H ks vs → RpK K μ' H' ks vs
  | [], _, h => h
  | kd :: r, _, ⟨v, t, h1, h2, h3⟩ => ⟨v, t, h1, Rp.le e kd.2 v h2, RpK.le e r t h3⟩
theorem RpK.mono (e : Ext K μ H μ' H') {ks : List (Key × D)} {vs : List (Key × V)} (h : RpK K μ H ks vs) : RpK K μ' H' ks vs := RpK.le e.le ks vs h
theorem RpK.length : ∀ {ks : List (Key × D)} {vs : List (Key × V)}, RpK K μ H ks vs → ks.length = vs.length
  | [], _, h => by rw [h]; rfl
  | _ :: ks, _, ⟨v, r, h1, _, h3⟩ => by rw [h1, List.length_cons, List.length_cons, RpK.length h3]
/-- what a dict holds at a key; a dict with a key put in -/
def gD : List (Key × D) → Key → Option D
  | [], _ => none
  | (j, d) :: r, k => if j = k then some d else gD r k
def pD : List (Key × D) → Key → D → List (Key × D)
  | [], k, d => [(k, d)]
  | (j, e) :: r, k, d => if j = k then (j, d) :: r else (j, e) :: pD r k d
theorem putK_cons (j k : Key) (v w : V) (r : List (Key × V)) (hn : (r.any fun kv => decide (kv.1 = j)) = false) : putK ((j, w) :: r) k v = if j = k then (j, v) :: r else (j, w) :: putK r k v := by
  unfold putK
  by_cases e : j = k
  · subst e
    rw [if_pos (by simp), if_pos rfl, List.map_cons, if_pos rfl]
    congr 1
    rw [List.any_eq_false] at hn
    conv => rhs; rw [← List.map_id r]
    exact List.map_congr_left fun kv hkv => by
      rw [if_neg (by simpa using hn kv hkv)]
      rfl
  · rw [if_neg e]
    by_cases h : (r.any fun kv => decide (kv.1 = k)) = true
    · rw [if_pos (by simp only [List.any_cons, h, Bool.or_true]), if_pos h, List.map_cons, if_neg e]
    · rw [if_neg (by simp only [List.any_cons, Bool.or_eq_true, decide_eq_true_eq]; exact fun q => q.elim e h), if_neg h]
      rfl
/-- no key twice -/
def Nk : List (Key × D) → Prop
  | [] => True
  | (j, _) :: r => gD r j = none ∧ Nk r
theorem gD_pD : ∀ (ks : List (Key × D)) (k j : Key) (d : D), gD (pD ks k d) j = if k = j then some d else gD ks j
  | [], k, j, d => by show (if k = j then some d else none) = _; rfl
  | (i, e) :: r, k, j, d => by
    unfold pD
    by_cases h : i = k
    · rw [if_pos h]
      subst h
      unfold gD
      by_cases h2 : i = j
      · rw [if_pos h2, if_pos h2]
      · rw [if_neg h2, if_neg h2, if_neg h2]
    · rw [if_neg h]
      unfold gD
      rw [gD_pD r k j d]
      by_cases h2 : i = j
      · subst h2
        rw [if_pos rfl, if_pos rfl, if_neg (fun z => h z.symm)]
      · rw [if_neg h2, if_neg h2]
theorem Nk.put : ∀ {ks : List (Key × D)} (k : Key) (d : D), Nk ks → Nk (pD ks k d)
  | [], _, _, _ => ⟨rfl, trivial⟩
  | (i, e) :: r, k, d, ⟨h1, h2⟩ => by
    unfold pD
    by_cases h : i = k
    · rw [if_pos h]
      exact ⟨h1, h2⟩
    · rw [if_neg h]
      refine ⟨?_, h2.put k d⟩
      rw [gD_pD, if_neg (fun z => h z.symm)]
      exact h1
theorem pD_length : ∀ (ks : List (Key × D)) (k : Key) (d : D), (pD ks k d).length ≤ ks.length + 1
  | [], _, _ => Nat.le_refl _
  | (i, e) :: r, k, d => by
    unfold pD
    split
    · rw [List.length_cons, List.length_cons]; omega
    · rw [List.length_cons, List.length_cons]
      have := pD_length r k d
      omega
theorem RpK.get : ∀ {ks : List (Key × D)} {vs : List (Key × V)} (k : Key), RpK K μ H ks vs → match gD ks k, valV vs k with
    | some d, some v => Rp K μ H d v
    | none, none => True
    | _, _ => False
  | [], _, k, h => by rw [show _ = [] from h]; exact trivial
  | (j, d) :: r, _, k, ⟨v, t, h1, h2, h3⟩ => by
    rw [h1]
    unfold gD
    by_cases e : j = k
    · rw [if_pos e, valV_pos (p := (j, v)) e]
      exact h2
    · rw [if_neg e, valV_neg (p := (j, v)) e]
      exact RpK.get k h3
theorem RpK.getS {ks : List (Key × D)} {vs : List (Key × V)} {k : Key} {d : D} (h : RpK K μ H ks vs) (e : gD ks k = some d) : ∃ v, valV vs k = some v ∧ Rp K μ H d v := by
  have := h.get k
  rw [e] at this
  cases q : valV vs k with
  | none => rw [q] at this; exact this.elim
  | some v => rw [q] at this; exact ⟨v, rfl, this⟩
theorem RpK.getN {ks : List (Key × D)} {vs : List (Key × V)} {k : Key} (h : RpK K μ H ks vs) (e : gD ks k = none) : valV vs k = none := by
  have := h.get k
  rw [e] at this
  cases q : valV vs k with
  | none => rfl
  | some v => rw [q] at this; exact this.elim
theorem RpK.isSome {ks : List (Key × D)} {vs : List (Key × V)} (h : RpK K μ H ks vs) (k : Key) : (valV vs k).isSome = (gD ks k).isSome := by
  cases e : gD ks k with
  | none => rw [h.getN e]; rfl
  | some d => obtain ⟨v, q, _⟩ := h.getS e; rw [q]; rfl
theorem RpK.put {k : Key} {d : D} {v : V} (rd : Rp K μ H d v) : ∀ {ks : List (Key × D)} {vs : List (Key × V)}, Nk ks → RpK K μ H ks vs → RpK K μ H (pD ks k d) (putK vs k v)
  | [], _, _, h => by rw [show _ = [] from h]; exact ⟨v, [], rfl, rd, rfl⟩
  | (j, e) :: r, _, ⟨n1, n2⟩, ⟨w, t, h1, h2, h3⟩ => by
    rw [h1, putK_cons _ _ _ _ _ (by
      rw [valV_any, h3.getN n1]
      rfl)]
    unfold pD
    by_cases q : j = k
    · rw [if_pos q, if_pos q]
      exact ⟨v, t, rfl, rd, h3⟩
    · rw [if_neg q, if_neg q]
      exact ⟨w, _, rfl, h2, h3.put rd n2⟩
/-! ### dicts whose keys are tuples -/
mutual
/-- data as a key -/
def nkOf : D → Option NestedKey
  | .non => some .none
  | .int i => some (.num i)
  | .str x => some (.text x)
  | .tup ds => (nksOf ds).map .tup
  | _ => none
def nksOf : List D → Option (List NestedKey)
  | [] => some []
  | d :: ds => match nkOf d, nksOf ds with
    | some k, some ks => some (k :: ks)
    | _, _ => none
end
mutual
/-- a key as data -/
def nkD : NestedKey → D
  | .none => .non
  | .num i => .int i
  | .text x => .str x
  | .tup ks => .tup (nksD ks)
def nksD : List NestedKey → List D
  | [] => []
  | k :: ks => nkD k :: nksD ks
end
mutual
theorem ky_rp : ∀ (d : D) (k : NestedKey) (v : V), nkOf d = some k → Rp K μ H d v → KyV K H k v
  | .non, _, _, e, r => by cases e; exact r
  | .int i, _, _, e, r => by cases e; exact r
  | .str x, _, _, e, r => by cases e; exact r
  | .tup ds, k, v, e, ⟨a, vs, h1, h2, h3, _⟩ => by
    have e : (nksOf ds).map NestedKey.tup = some k := e
    obtain ⟨ks, e1, rfl⟩ := Option.map_eq_some_iff.mp e
    exact ⟨a, vs, h1, h2, kys_rp ds ks vs e1 h3⟩
  | .bl _, _, _, e, _ => nomatch e
  | .ref _, _, _, e, _ => nomatch e
  | .fix _, _, _, e, _ => nomatch e
theorem kys_rp : ∀ (ds : List D) (ks : List NestedKey) (vs : List V), nksOf ds = some ks → RpA K μ H ds vs → KyVs K H ks vs
  | [], _, _, e, r => by cases e; exact r
  | d :: ds, ks, vs, e, ⟨v, t, h1, h2, h3⟩ => by
    rw [nksOf] at e
    cases e1 : nkOf d with
    | none => rw [e1] at e; cases e
    | some k =>
      cases e2 : nksOf ds with
      | none => rw [e1, e2] at e; cases e
      | some kr =>
        rw [e1, e2] at e
        cases e
        exact ⟨v, t, h1, ky_rp d k v e1 h2, kys_rp ds kr t e2 h3⟩
end
/-- the entries, in order -/
def TbR (K : Fg) (μ : List Addr) (H : Hp) : List (NestedKey × D) → List TEn → Prop
  | [], xs => xs = []
  | kd :: r, xs => ∃ b u v t, xs = (kd.1, b, u) :: t ∧ RelV v u ∧ Rp K μ H kd.2 v ∧ TbR K μ H r t
theorem TbR.le (e : Le K μ H μ' H') : ∀ (ks : List (NestedKey × D)) (xs : List TEn), TbR K μ H ks xs → TbR K μ' H' ks xs
  | [], _, h => h
  | kd :: r, _, ⟨b, u, v, t, h1, h2, h3, h4⟩ => ⟨b, u, v, t, h1, h2, Rp.le e kd.2 v h3, TbR.le e r t h4⟩
theorem TbR.length : ∀ {ks : List (NestedKey × D)} {xs : List TEn}, TbR K μ H ks xs → ks.length = xs.length
  | [], _, h => by rw [h]; rfl
  | _ :: ks, _, ⟨b, u, v, t, h1, _, _, h4⟩ => by rw [h1, List.length_cons, List.length_cons, TbR.length h4]
theorem KysOk.le (e : Le K μ H μ' H') {xs : List TEn} (h : KysOk K H xs) : KysOk K H' xs := fun x hx => ⟨KyV.mono e.tup _ _ (h x hx).1, (h x hx).2⟩
/-- what such a dict holds at a key; with a key put in -/
def gT : List (NestedKey × D) → NestedKey → Option D
  | [], _ => none
  | (j, d) :: r, k => if j = k then some d else gT r k
def pT (ks : List (NestedKey × D)) (k : NestedKey) (d : D) : List (NestedKey × D) :=
  if (gT ks k).isSome then ks.map (fun e => if e.1 = k then (e.1, d) else e) else ks ++ [(k, d)]
theorem TbR.get : ∀ {ks : List (NestedKey × D)} {xs : List TEn} {k : NestedKey}, TbR K μ H ks xs → (gT ks k = none ∧ atKey xs k = none) ∨ ∃ d p v, gT ks k = some d ∧ atKey xs k = some p ∧ RelV v p.2 ∧ Rp K μ H d v
  | [], _, k, h => by
    rw [h]
    exact .inl ⟨rfl, rfl⟩
  | (j, d) :: r, _, k, ⟨b, u, v, t, h1, h2, h3, h4⟩ => by
    subst h1
    by_cases e : j = k
    · refine .inr ⟨d, (b, u), v, if_pos e, ?_, h2, h3⟩
      unfold atKey
      rw [List.find?_cons_of_pos (by exact decide_eq_true e)]
      rfl
    · have e1 : gT ((j, d) :: r) k = gT r k := if_neg e
      have e2 : atKey ((j, b, u) :: t) k = atKey t k := by
        unfold atKey
        rw [List.find?_cons_of_neg (by simpa using e)]
      rw [e1, e2]
      exact TbR.get h4
theorem TbR.rep {k : NestedKey} {d : D} {v : V} {u : Value} (rv : RelV v u) (rd : Rp K μ H d v) : ∀ {ks : List (NestedKey × D)} {xs : List TEn}, TbR K μ H ks xs → TbR K μ H (ks.map fun e => if e.1 = k then (e.1, d) else e) (xs.map (putAt k u))
  | [], _, h => by rw [h]; rfl
  | (j, e) :: r, _, ⟨b, w, x, t, h1, h2, h3, h4⟩ => by
    subst h1
    rw [List.map_cons, List.map_cons]
    by_cases c : j = k
    · exact ⟨b, u, v, _, by unfold putAt; simp [c], rv, by simp [c]; exact rd, TbR.rep rv rd h4⟩
    · exact ⟨b, w, x, _, by unfold putAt; simp [c], h2, by simp [c]; exact h3, TbR.rep rv rd h4⟩
theorem TbR.snoc {k : NestedKey} {b : Addr} {d : D} {v : V} {u : Value} (rv : RelV v u) (rd : Rp K μ H d v) : ∀ {ks : List (NestedKey × D)} {xs : List TEn}, TbR K μ H ks xs → TbR K μ H (ks ++ [(k, d)]) (xs ++ [(k, b, u)])
  | [], _, h => by rw [h]; exact ⟨b, u, v, [], rfl, rv, rd, rfl⟩
  | (j, e) :: r, _, ⟨c, w, x, t, h1, h2, h3, h4⟩ => by
    subst h1
    exact ⟨c, w, x, _, rfl, h2, h3, TbR.snoc rv rd h4⟩
theorem TbR.put {k : NestedKey} {b : Addr} {d : D} {v : V} {u : Value} (rv : RelV v u) (rd : Rp K μ H d v) {ks : List (NestedKey × D)} {xs : List TEn} (h : TbR K μ H ks xs) : TbR K μ H (pT ks k d) (storedH xs k b u) := by
  unfold pT storedH
  rcases TbR.get (k := k) h with ⟨e1, e2⟩ | ⟨d', p, v', e1, e2, _⟩
  · rw [e1, e2]
    exact h.snoc rv rd
  · rw [e1, e2]
    exact h.rep rv rd
theorem KysOk.put {k : NestedKey} {b : Addr} {u : Value} {xs : List TEn} (h : KysOk K H xs) (hk : KyV K H k (.ref b)) (hd : k.depth ≤ 8) : KysOk K H (storedH xs k b u) := fun x hx => by
  unfold storedH at hx
  split at hx
  · obtain ⟨y, hy, rfl⟩ := List.mem_map.mp hx
    have := h y hy
    unfold putAt
    split
    · exact this
    · exact this
  · rcases List.mem_append.mp hx with hx | hx
    · exact h x hx
    · rw [List.mem_singleton.mp hx]
      exact ⟨hk, hd⟩
theorem pT_len (ks : List (NestedKey × D)) (k : NestedKey) (d : D) : (pT ks k d).length ≤ ks.length + 1 := by
  unfold pT
  split
  · rw [List.length_map]; omega
  · rw [List.length_append]; simp
/-- an object of the store as it stands -/
def ObR (K : Fg) (μ : List Addr) (H : Hp) : Ob → Addr → Prop
  | .lst ds, a => ∃ vs, H a = some (.lst vs) ∧ RpA K μ H ds vs ∧ ds.length ≤ sizeLine
  | .dic ks, a => ∃ vs, H a = some (.dK vs) ∧ RpK K μ H ks vs ∧ ks.length ≤ sizeLine ∧ Nk ks
  | .frd ks, a => ∃ vs, (∃ o, H a = some (.frz o (.dK vs))) ∧ RpK K μ H ks vs ∧ ks.length ≤ sizeLine ∧ Nk ks
  | .dkt ks, a => ∃ xs, H a = some (TbO K.P K.w a xs) ∧ (a == sysModules) = false ∧ KysOk K H xs ∧ TbR K μ H ks xs ∧ ks.length ≤ sizeLine
structure StOk (K : Fg) (μ : List Addr) (H : Hp) (S : Sto) : Prop where
  len : μ.length = S.length
  nd : μ.Nodup
  ob : ∀ (i : Nat) o a, S[i]? = some o → μ[i]? = some a → ObR K μ H o a
theorem ObR.some {o : Ob} {a : Addr} (h : ObR K μ H o a) : ∃ u, H a = some u ∧ (∀ xs, u ≠ .tup xs) ∧ (∀ b xs, u ≠ .frz b (.tup xs)) ∧ ∀ b xs, u ≠ .frz b (.lst xs) := by
  cases o with
  | lst ds =>
    obtain ⟨vs, e, _⟩ := h
    exact ⟨.lst vs, e, fun _ => (fun z => by cases z), fun _ _ => (fun z => by cases z), fun _ _ => (fun z => by cases z)⟩
  | dic ks =>
    obtain ⟨vs, e, _⟩ := h
    exact ⟨.dK vs, e, fun _ => (fun z => by cases z), fun _ _ => (fun z => by cases z), fun _ _ => (fun z => by cases z)⟩
  | frd ks =>
    obtain ⟨vs, ⟨o, e⟩, _⟩ := h
    exact ⟨_, e, fun _ => (fun z => by cases z), fun _ _ => (fun z => by cases z), fun _ _ => (fun z => by cases z)⟩
  | dkt ks =>
    obtain ⟨xs, e, _⟩ := h
    exact ⟨_, e, fun _ => (fun z => by cases z), fun _ _ => (fun z => by cases z), fun _ _ => (fun z => by cases z)⟩
theorem StOk.mem (h : StOk K μ H S) {a : Addr} (m : a ∈ μ) : ∃ u, H a = some u ∧ (∀ xs, u ≠ .tup xs) ∧ (∀ b xs, u ≠ .frz b (.tup xs)) ∧ ∀ b xs, u ≠ .frz b (.lst xs) := by
  obtain ⟨i, e⟩ := List.mem_iff_getElem?.mp m
  have hi : i < S.length := by
    rw [← h.len]
    exact (List.getElem?_eq_some_iff.mp e).1
  exact (h.ob i S[i] a (List.getElem?_eq_getElem hi) e).some
/-- from what was changed alone -/
theorem StOk.ext (h : StOk K μ H S) (pre : ∃ l, μ' = μ ++ l ∧ ∀ a ∈ l, H a = none) (alive : ∀ a, H' a = none → H a = none) (fr : ∀ a o, H a = some o → a ∉ μ → H' a = some o) (fz : ∀ a o vs, H a = some (.frz o (.dK vs)) → H' a = some (.frz o (.dK vs))) : Ext K μ H μ' H' := by
  refine ⟨pre, alive, fr, fun a xs q => ?_, fun a xs q => ?_, fz⟩
  · rcases q with ⟨o, q, c1, c2⟩ | q
    · refine .inl ⟨o, fr _ _ q fun m => ?_, c1, c2⟩
      obtain ⟨u, e, _, n2, _⟩ := h.mem m
      rw [q] at e
      exact n2 _ _ (Option.some.inj e).symm
    · exact .inr q
  · rcases q with ⟨o, q⟩ | q
    · refine .inl ⟨o, fr _ _ q fun m => ?_⟩
      obtain ⟨u, e, _, _, n2⟩ := h.mem m
      rw [q] at e
      exact n2 _ _ (Option.some.inj e).symm
    · exact .inr q
/-- a new thing that the store does not know -/
theorem StOk.fresh (h : StOk K μ H S) {p : Addr} (hp : H p = none) (o : HO) : Ext K μ H μ (upd H p o) :=
  h.ext ⟨[], by simp, fun a z => nomatch z⟩ (fun a z => by
    by_cases e : a = p
    · rw [e]; exact hp
    · rw [upd_ne e] at z; exact z) (fun a u z _ => by rw [upd_ne (ne_of_none z hp)]; exact z) fun a u vs z => by rw [upd_ne (ne_of_none z hp)]; exact z
theorem ObR.le {o : Ob} {a : Addr} (e : Le K μ H μ' H') (q : H' a = H a) (h : ObR K μ H o a) : ObR K μ' H' o a := by
  cases o with
  | lst ds =>
    obtain ⟨vs, e1, e2, e3⟩ := h
    exact ⟨vs, q.trans e1, RpA.le e ds vs e2, e3⟩
  | dic ks =>
    obtain ⟨vs, e1, e2, e3, e4⟩ := h
    exact ⟨vs, q.trans e1, RpK.le e ks vs e2, e3, e4⟩
  | frd ks =>
    obtain ⟨vs, ⟨o, e1⟩, e2, e3, e4⟩ := h
    exact ⟨vs, ⟨o, q.trans e1⟩, RpK.le e ks vs e2, e3, e4⟩
  | dkt ks =>
    obtain ⟨xs, e1, e2, e3, e4, e5⟩ := h
    exact ⟨xs, q.trans e1, e2, KysOk.le e e3, TbR.le e ks xs e4, e5⟩
theorem StOk.freshOk (h : StOk K μ H S) {p : Addr} (hp : H p = none) (o : HO) : StOk K μ (upd H p o) S :=
  ⟨h.len, h.nd, fun i ob a e1 e2 => (h.ob i ob a e1 e2).le (h.fresh hp o).le (by
    obtain ⟨u, e, _⟩ := h.mem (List.mem_of_getElem? e2)
    rw [upd_ne (ne_of_none e hp)])⟩
/-- a thing of one's own that the store takes up -/
theorem StOk.takeO (h : StOk K μ H S) {p : Addr} {ob : Ob} (hp : p ∉ μ) (r : ObR K μ H ob p) : StOk K (μ ++ [p]) H (S ++ [ob]) := by
  refine ⟨by rw [List.length_append, List.length_append, h.len]; rfl, ?_, fun i o a e1 e2 => ?_⟩
  · rw [List.nodup_append]
    exact ⟨h.nd, by simp, fun a ha b hb z => by
      have : b = p := by simpa using hb
      rw [z, this] at ha
      exact hp ha⟩
  · by_cases hi : i < S.length
    · rw [List.getElem?_append_left hi] at e1
      rw [List.getElem?_append_left (by rw [h.len]; exact hi)] at e2
      exact (h.ob i o a e1 e2).le (Le.more [p]) rfl
    · have hi2 : i = S.length := by
        have := (List.getElem?_eq_some_iff.mp e1).1
        rw [List.length_append] at this
        simp at this
        omega
      subst hi2
      rw [List.getElem?_append_right (Nat.le_refl _), Nat.sub_self] at e1
      rw [← h.len, List.getElem?_append_right (Nat.le_refl _), Nat.sub_self] at e2
      cases e1
      cases e2
      exact r.le (Le.more [p]) rfl
theorem StOk.take (h : StOk K μ H S) {p : Addr} {vs : List V} {ds : List D} (hp : p ∉ μ) (hv : H p = some (.lst vs)) (r : RpA K μ H ds vs) (hz : ds.length ≤ sizeLine) : StOk K (μ ++ [p]) H (S ++ [.lst ds]) := h.takeO hp ⟨vs, hv, r, hz⟩
theorem Ext.take (e : Ext K μ H μ1 H1) {p : Addr} (hp : H p = none) : Ext K μ H (μ1 ++ [p]) H1 := by
  obtain ⟨l, rfl, n⟩ := e.pre
  refine ⟨⟨l ++ [p], by rw [List.append_assoc], fun a ha => ?_⟩, e.alive, e.fr, e.tup, e.fix, e.frd⟩
  rcases List.mem_append.mp ha with h | h
  · exact n a h
  · have : a = p := by simpa using h
    rw [this]; exact hp
/-- a thing of the store is changed -/
theorem StOk.putE (h : StOk K μ H S) {i : Nat} {p : Addr} (u : HO) (hi : μ[i]? = some p) (nf : ∀ o vs, H p ≠ some (.frz o (.dK vs))) : Ext K μ H μ (upd H p u) := by
  have hm : p ∈ μ := List.mem_of_getElem? hi
  exact h.ext ⟨[], by simp, fun a z => nomatch z⟩ (fun a z => by
    by_cases e : a = p
    · rw [e, upd_same] at z; cases z
    · rw [upd_ne e] at z; exact z) (fun a u z q => by
      rw [upd_ne (fun e => q (by rw [e]; exact hm))]
      exact z) fun a o vs z => by
      rw [upd_ne (fun e => nf o vs (by rw [← e]; exact z))]
      exact z
theorem nf_lst {H : Hp} {p : Addr} {ws : List V} (k : H p = some (.lst ws)) : ∀ o vs, H p ≠ some (.frz o (.dK vs)) := fun o vs z => by rw [k] at z; cases z
theorem nf_dK {H : Hp} {p : Addr} {ws : List (Key × V)} (k : H p = some (.dK ws)) : ∀ o vs, H p ≠ some (.frz o (.dK vs)) := fun o vs z => by rw [k] at z; cases z
theorem StOk.putL (h : StOk K μ H S) {i : Nat} {p : Addr} {u : HO} {ob : Ob} (hi : μ[i]? = some p) (ex : Le K μ H μ (upd H p u)) (r : ObR K μ (upd H p u) ob p) : StOk K μ (upd H p u) (S.set i ob) := by
  refine ⟨by rw [List.length_set]; exact h.len, h.nd, fun j o a e1 e2 => ?_⟩
  by_cases hj : i = j
  · subst hj
    rw [hi] at e2
    cases e2
    rw [List.getElem?_set_self (by rw [← h.len]; exact (List.getElem?_eq_some_iff.mp hi).1)] at e1
    cases e1
    exact r
  · rw [List.getElem?_set_ne hj] at e1
    have hne : a ≠ p := fun z => hj (by
      rw [z] at e2
      obtain ⟨h1, q1⟩ := List.getElem?_eq_some_iff.mp hi
      obtain ⟨h2, q2⟩ := List.getElem?_eq_some_iff.mp e2
      exact (List.getElem_inj h.nd).mp (q1.trans q2.symm))
    exact (h.ob j o a e1 e2).le ex (upd_ne hne)
theorem StOk.putO (h : StOk K μ H S) {i : Nat} {p : Addr} {u : HO} {ob : Ob} (hi : μ[i]? = some p) (nf : ∀ o vs, H p ≠ some (.frz o (.dK vs))) (r : ObR K μ (upd H p u) ob p) : StOk K μ (upd H p u) (S.set i ob) := h.putL hi (h.putE u hi nf).le r
/-- a dict that stood still changes again -/
theorem frd_le {p : Addr} {od : Obj} {vs : List (Key × V)} {u : HO} (hp : H p = some (.frz od (.dK vs))) : Le K μ H μ (upd H p u) := by
  refine ⟨fun _ _ h => h, fun a xs q => ?_, fun a xs q => ?_⟩
  · rcases q with ⟨o, q, c1, c2⟩ | q
    · refine .inl ⟨o, ?_, c1, c2⟩
      rw [upd_ne fun e => by rw [e, hp] at q; cases q]
      exact q
    · exact .inr q
  · rcases q with ⟨o, q⟩ | q
    · refine .inl ⟨o, ?_⟩
      rw [upd_ne fun e => by rw [e, hp] at q; cases q]
      exact q
    · exact .inr q
/-- locked, run, unlocked -/
theorem Ext.unlock (hs : StOk K μ H S) {i : Nat} {p : Addr} {od : Obj} {vs : List (Key × V)} (hi : μ[i]? = some p) (hp : H p = some (.dK vs)) (e : Ext K μ (upd H p (.frz od (.dK vs))) μ' H') : H' p = some (.frz od (.dK vs)) ∧ Ext K μ H μ' (upd H' p (.dK vs)) := by
  have hl : H' p = some (.frz od (.dK vs)) := e.frd p od vs upd_same
  have ex := hs.putE (.frz od (.dK vs)) hi (nf_dK hp)
  have le := frd_le (K := K) (μ := μ') (u := .dK vs) hl
  refine ⟨hl, ?_, fun a z => ?_, fun a o z m => ?_, fun a xs q => le.tup a xs (e.tup a xs (ex.tup a xs q)), fun a xs q => le.fix a xs (e.fix a xs (ex.fix a xs q)), fun a o ws z => ?_⟩
  · obtain ⟨l, e1, e2⟩ := e.pre
    exact ⟨l, e1, fun a ha => ex.alive a (e2 a ha)⟩
  · by_cases h : a = p
    · rw [h, upd_same] at z; cases z
    · rw [upd_ne h] at z; exact ex.alive a (e.alive a z)
  · have h : a ≠ p := fun h => m (by rw [h]; exact List.mem_of_getElem? hi)
    rw [upd_ne h]
    exact e.fr a o (ex.fr a o z m) m
  · have h : a ≠ p := fun h => by rw [h, hp] at z; cases z
    rw [upd_ne h]
    exact e.frd a o ws (ex.frd a o ws z)
theorem StOk.put (h : StOk K μ H S) {i : Nat} {p : Addr} {vs ws : List V} {ds : List D} (hi : μ[i]? = some p) (k0 : H p = some (.lst ws)) (r : RpA K μ H ds vs) (hz : ds.length ≤ sizeLine) : Ext K μ H μ (upd H p (.lst vs)) ∧ StOk K μ (upd H p (.lst vs)) (S.set i (.lst ds)) :=
  ⟨h.putE _ hi (nf_lst k0), h.putO hi (nf_lst k0) ⟨vs, upd_same, r.mono (h.putE _ hi (nf_lst k0)), hz⟩⟩
theorem StOk.dic (h : StOk K μ H S) {i : Nat} {a : Addr} {ks : List (Key × D)} (e1 : S[i]? = some (.dic ks)) (e2 : μ[i]? = some a) : ∃ vs, H a = some (.dK vs) ∧ RpK K μ H ks vs ∧ ks.length ≤ sizeLine ∧ Nk ks := h.ob i _ a e1 e2
theorem StOk.frd (h : StOk K μ H S) {i : Nat} {a : Addr} {ks : List (Key × D)} (e1 : S[i]? = some (.frd ks)) (e2 : μ[i]? = some a) : ∃ vs, (∃ o, H a = some (.frz o (.dK vs))) ∧ RpK K μ H ks vs ∧ ks.length ≤ sizeLine ∧ Nk ks := h.ob i _ a e1 e2
theorem StOk.lst (h : StOk K μ H S) {i : Nat} {a : Addr} {ds : List D} (e1 : S[i]? = some (.lst ds)) (e2 : μ[i]? = some a) : ∃ vs, H a = some (.lst vs) ∧ RpA K μ H ds vs ∧ ds.length ≤ sizeLine := h.ob i _ a e1 e2
end
end PQ

/-! The language: its syntax and what it says. -/
namespace PQ
open PySem PySem.Spec PyProof.Rows L2

inductive Res (α : Type) where
  | ok (a : α) (S : Sto)
  | exc (c : Str) (fs : List (Str × D)) (S : Sto)
  | bad
def Res.bind {α β : Type} : Res α → (α → Sto → Res β) → Res β
  | .ok a S, f => f a S
  | .exc c fs S, _ => .exc c fs S
  | .bad, _ => .bad
/-- a wish that is granted, or nothing -/
noncomputable def ask {α : Type} (p : Prop) (r : Res α) : Res α := open Classical in if p then r else .bad
def may {α β : Type} (o : Option α) (f : α → Res β) : Res β := match o with
  | some a => f a
  | none => .bad

inductive Bop | add | sub | mul | fdiv | mod | pow | shl | shr | band | bor | bxor
inductive Cop | eq | ne | lt | le | gt | ge
inductive Ag | len | sum | all | any | min | max | tuple
inductive F1 | int | abs | str | repr
inductive F2 | min | max | gcd
inductive Ty | int | bool | str | tuple
/-- targets: a name, a row of names -/
inductive CN
  | nm (i : Nat)
  | tup (is : List Nat)

mutual
inductive CE where
  | var (i : Nat)
  | lit (d : D)
  | tup (es : CEs)
  | alloc (q : CQ)
  | bin (o : Bop) (a b : CE)
  | neg (a : CE)
  | cmp (o : Cop) (a b : CE)
  | chn (o p : Cop) (a b c : CE)
  | isN (a : CE)
  | notN (a : CE)
  | inr (a : CE) (r : CR)
  | notInr (a : CE) (r : CR)
  | and (a b : CE)
  | or (a b : CE)
  | not (a : CE)
  | ife (t : CT) (a b : CE)
  | idx (a i : CE)
  | slc (a : CE) (lo hi : CO)
  | call (f : Nat) (es : CEs)
  | fn1 (f : F1) (a : CE)
  | fn2 (f : F2) (a b : CE)
  | agg (f : Ag) (r : CR)
  | isi (a : CE) (t : Ty)
  | app (l x : CE)
  | ext (l : CE) (r : CR)
  | pop (l : CE)
  | popAt (l i : CE)
  | join (s : Str) (r : CR)
  | tix (a i : CE)
  | ins (l i x : CE)
  | dnew
  | dget (a k x : CE)
  | dsetd (a k x : CE)
  | rv (r : CR)
inductive CO where
  | none
  | some (e : CE)
inductive CEs where
  | nil
  | cons (a : CE) (r : CEs)
inductive CQ where
  | disp (es : CEs)
  | comp (own : List Nat) (g : CN) (it : CI) (elt : CE)
  | compIf (own : List Nat) (g : CN) (it : CI) (t : CT) (elt : CE)
  | cat (a b : CR)
  | sorted (r : CR)
  | list (r : CR)
  | listRg (a b : CE)
  | rev (r : CR)
  | sset (r : CR)
inductive CR where
  | q (c : CQ)
  | e (c : CE)
inductive CI where
  | r (c : CR)
  | rg (a b : CE)
  | rgd (a b : CE)
inductive CT where
  | v (e : CE)
  | and (a b : CT)
  | or (a b : CT)
  | not (a : CT)
end
mutual
inductive CS where
  | set (g : CN) (e : CE)
  | par (i j : Nat) (a b : CE)
  | sub (o i e : CE)
  | aug (i : Nat) (o : Bop) (e : CE)
  | augS (o i : CE) (p : Bop) (e : CE)
  | ex (e : CE)
  | ret (e : CE)
  | ite (t : CT) (a b : CSs)
  | for (g : CN) (it : CI) (b : CSs)
  | while (t : CT) (b : CSs)
  | brk
  | cont
  | pass
  | raise
inductive CSs where
  | nil
  | cons (s : CS) (r : CSs)
end

/-! ### values -/
mutual
/-- pure data of a value; f: of the store's lists -/
def toPW (f : Nat → Option PyData) : D → Option PyData
  | .non => some .none
  | .bl b => some (.bool b)
  | .int i => some (.int i)
  | .str x => some (.str x)
  | .tup ds => (toPsW f ds).map .tuple
  | .fix ds => (toPsW f ds).map .list
  | .ref i => f i
def toPsW (f : Nat → Option PyData) : List D → Option (List PyData)
  | [] => some []
  | d :: ds => match toPW f d, toPsW f ds with
    | some p, some ps => some (p :: ps)
    | _, _ => none
end
/-- the store's lists by their contents, at most n deep -/
def refP (S : Sto) : Nat → Nat → Option PyData
  | 0, _ => none
  | n + 1, i => match S[i]? with
    | some (.lst ds) => (toPsW (refP S n) ds).map .list
    | _ => none
def toP (S : Sto) (d : D) : Option PyData := toPW (refP S 8) d
def toPs (S : Sto) (ds : List D) : Option (List PyData) := toPsW (refP S 8) ds

def scalD : D → D → Bool
  | .non, .non => true | .non, .int _ => true | .int _, .non => true | .non, .bl _ => true | .bl _, .non => true | .non, .str _ => true | .str _, .non => true
  | .int _, .int _ => true | .bl _, .bl _ => true | .str _, .str _ => true
  | .int _, .str _ => true | .str _, .int _ => true | .bl _, .str _ => true | .str _, .bl _ => true
  | _, _ => false
def eqSc : D → D → Bool
  | .non, .non => true
  | .int i, .int j => decide (i = j)
  | .bl i, .bl j => decide (i = j)
  | .str i, .str j => decide (i = j)
  | _, _ => false
def dEq (S : Sto) (x y : D) : Option Bool :=
  if scalD x y = true then some (eqSc x y) else match toP S x, toP S y with
    | some p, some q => if (shp p && shp q) = true then some (PyData.eqv p q) else none
    | _, _ => none
def tru (S : Sto) : D → Option Bool
  | .non => some false
  | .bl b => some b
  | .int i => some (i != 0)
  | .str x => if x.length ≤ sizeLine then some (x.length != 0) else none
  | .tup ds => some (!ds.isEmpty)
  | .fix ds => some (!ds.isEmpty)
  | .ref i => match S[i]? with
    | some (.lst ds) => some (!ds.isEmpty)
    | _ => none
def FDivOk (i j : Int) : Prop := j ≠ 0 ∧ Builtin.divisionGoesByPylong i j = false
noncomputable def binD (o : Bop) (x y : D) (S : Sto) : Res D :=
  match o, x, y with
  | .add, .int i, .int j => .ok (.int (i + j)) S
  | .add, .int i, .bl b => .ok (.int (i + if b = true then 1 else 0)) S
  | .add, .str a, .str b => ask (a.length + b.length ≤ sizeLine) (.ok (.str (a ++ b)) S)
  | .add, .tup a, .tup b => ask (a.length + b.length ≤ sizeLine) (.ok (.tup (a ++ b)) S)
  | .add, .ref i, .ref j => match S[i]?, S[j]? with
    | some (.lst a), some (.lst b) => ask (a.length + b.length ≤ sizeLine) (.ok (.ref S.length) (S ++ [.lst (a ++ b)]))
    | _, _ => .bad
  | .sub, .int i, .int j => .ok (.int (i - j)) S
  | .mul, .int i, .int j => ask (IntMulOk i j) (.ok (.int (i * j)) S)
  | .mul, .ref i, .int k => match S[i]? with
    | some (.lst a) => ask (-(2 ^ 63) ≤ k ∧ k < 2 ^ 63 ∧ a.length * k.toNat ≤ sizeLine) (.ok (.ref S.length) (S ++ [.lst (List.replicate k.toNat a).flatten]))
    | _ => .bad
  | .mul, .tup a, .int k => ask (-(2 ^ 63) ≤ k ∧ k ≤ 1000 ∧ a.length ≤ 1000) (.ok (.tup (List.replicate k.toNat a).flatten) S)
  | .mul, .str a, .int k => ask (MulOk a k) (.ok (.str (Txt.mul a k)) S)
  | .fdiv, .int i, .int j => ask (FDivOk i j) (.ok (.int (i.fdiv j)) S)
  | .mod, .int i, .int j => ask (j ≠ 0) (.ok (.int (i.fmod j)) S)
  | .pow, .int i, .int j => ask (CPow i j) (.ok (.int (i ^ j.toNat)) S)
  | .shl, .int i, .int j => ask (CPow i j) (.ok (.int (i * 2 ^ j.toNat)) S)
  | .shr, .int i, .int j => ask (0 ≤ j) (.ok (.int (i / 2 ^ j.toNat)) S)
  | .band, .int i, .int j => .ok (.int (Builtin.bitAnd i j)) S
  | .bor, .int i, .int j => .ok (.int (Builtin.bitOr i j)) S
  | .bxor, .int i, .int j => .ok (.int (Builtin.bitXor i j)) S
  | _, _, _ => .bad
def augD (o : Bop) (x y : D) (S : Sto) : Res D :=
  match o, x, y with
  | .add, .int i, .int j => .ok (.int (i + j)) S
  | .sub, .int i, .int j => .ok (.int (i - j)) S
  | .add, .str a, .str b => if a.length + b.length ≤ sizeLine then .ok (.str (a ++ b)) S else .bad
  | _, _, _ => .bad
def isNon : D → Bool
  | .non => true
  | _ => false
/-- the order of data -/
def ordP (o : Cop) (p q : PyData) : Bool := match o with
  | .lt => PySem.W.dataLt p q
  | .gt => PySem.W.dataLt q p
  | .le => !PySem.W.dataLt q p
  | .ge => !PySem.W.dataLt p q
  | _ => false
def ordD (o : Cop) (x y : D) (S : Sto) : Res D := match toP S x, toP S y with
  | some p, some q => if cmpOk p q = true then .ok (.bl (ordP o p q)) S else .bad
  | _, _ => .bad
def cmpI (o : Cop) (f : Int → Int → Bool) (x y : D) (S : Sto) : Res D := match x, y with
  | .int i, .int j => .ok (.bl (f i j)) S
  | x, y => ordD o x y S
def cmpD (o : Cop) (x y : D) (S : Sto) : Res D :=
  match o with
  | .eq => may (dEq S x y) fun b => .ok (.bl b) S
  | .ne => may (dEq S x y) fun b => .ok (.bl (!b)) S
  | .lt => cmpI .lt (fun i j => decide (i < j)) x y S
  | .le => cmpI .le (fun i j => decide (i ≤ j)) x y S
  | .gt => cmpI .gt (fun i j => decide (j < i)) x y S
  | .ge => cmpI .ge (fun i j => decide (j ≤ i)) x y S
/-- a walked thing: one's own list, or a value -/
inductive RV
  | own (ds : List D)
  | val (d : D)
/-- a list (tracked or fixed) by its items -/
def lsOf (S : Sto) : RV → Option (List D)
  | .own ds => some ds
  | .val (.fix ds) => some ds
  | .val (.ref i) => match S[i]? with
    | some (.lst ds) => some ds
    | _ => none
  | _ => none
/-- .. a list that may change -/
def trOf (S : Sto) : RV → Option (List D)
  | .own ds => some ds
  | .val (.ref i) => match S[i]? with
    | some (.lst ds) => some ds
    | _ => none
  | _ => none
/-- a dict by its pairs -/
def dicOf (S : Sto) : RV → Option (List (Key × D))
  | .val (.ref i) => match S[i]? with
    | some (.dic ks) => some ks
    | some (.frd ks) => some ks
    | _ => none
  | _ => none
/-- .. a dict with tuple keys by its pairs -/
def tabOf (S : Sto) : RV → Option (List (NestedKey × D))
  | .val (.ref i) => match S[i]? with
    | some (.dic []) => some []
    | some (.dkt ks) => some ks
    | _ => none
  | _ => none
def keyOf : D → Option Key
  | .int i => some (.inl i)
  | .str x => some (.inr x)
  | _ => none
/-- .. or a tuple -/
def sqOf (S : Sto) : RV → Option (List D)
  | .val (.tup ds) => some ds
  | r => lsOf S r
def lenOf (S : Sto) (r : RV) : Option Nat := match sqOf S r with
  | some ds => some ds.length
  | none => (dicOf S r).map List.length
/-- .. what is sorted: a list, or a dict's texts -/
def strKeys : List (Key × D) → Option (List D)
  | [] => some []
  | (.inr x, _) :: r => (strKeys r).map (.str x :: ·)
  | (.inl _, _) :: _ => none
def soOf (S : Sto) (r : RV) : Option (List D) := match lsOf S r with
  | some ds => some ds
  | none => (dicOf S r).bind strKeys
/-- .. or a text by its letters -/
def lettersD (z : Str) : List D := z.cps.toList.map fun c => D.str ⟨#[c]⟩
def lstOf (S : Sto) (r : RV) : Option (List D) := match r with
  | .val (.str z) => if z.length ≤ sizeLine then some (lettersD z) else none
  | r => sqOf S r
def intsOf : List D → Option (List Int)
  | [] => some []
  | .int i :: r => (intsOf r).map (i :: ·)
  | _ => none
def boolsOf : List D → Option (List Bool)
  | [] => some []
  | .bl b :: r => (boolsOf r).map (b :: ·)
  | _ => none
def strsOf : List D → Option (List Str)
  | [] => some []
  | .str x :: r => (strsOf r).map (x :: ·)
  | _ => none
def greatest : List Int → Option Int
  | [] => none
  | [x] => some x
  | x :: r => (greatest r).map fun m => if x < m then m else x
def least : List Int → Option Int
  | [] => none
  | [x] => some x
  | x :: r => (least r).map fun m => if m < x then m else x
/-- the data of what holds no list that may change -/
def pOf (d : D) : PyData := (toPW (fun _ => none) d).getD .none
def minDD (d : D) (ds : List D) : D := ds.foldl (fun a y => if PySem.W.dataLt (pOf y) (pOf a) then y else a) d
noncomputable def minRow (S : Sto) : List D → Res D
  | d :: ds => match toPsW (fun _ => none) (d :: ds) with
    | some ps => ask (PySem.W.AlikeAll ps ∧ PyData.depthAll ps ≤ 64 ∧ ∀ q ∈ ps, q.canLay0 = true) (.ok (minDD d ds) S)
    | none => .bad
  | [] => .bad
noncomputable def aggD (f : Ag) (r : RV) (S : Sto) : Res D :=
  match f with
  | .len => match r with
    | .val (.str x) => if x.length ≤ sizeLine then .ok (.int x.length) S else .bad
    | r => may (lenOf S r) fun n => .ok (.int n) S
  | .sum => may (sqOf S r) fun ds => may (intsOf ds) fun ns => .ok (.int ns.sum) S
  | .all => may (lsOf S r) fun ds => may (boolsOf ds) fun bs => .ok (.bl (bs.all id)) S
  | .any => may (lsOf S r) fun ds => may (boolsOf ds) fun bs => .ok (.bl (bs.any id)) S
  | .max => may (lsOf S r) fun ds => may (intsOf ds) fun ns => may (greatest ns) fun m => .ok (.int m) S
  | .min => may (lsOf S r) fun ds => match intsOf ds with
    | some ns => may (least ns) fun m => .ok (.int m) S
    | none => minRow S ds
  | .tuple => may (sqOf S r) fun ds => .ok (.tup ds) S
def fn1D (f : F1) (x : D) (S : Sto) : Res D :=
  match f, x with
  | .int, .int i => .ok (.int i) S
  | .int, .bl b => .ok (.int (if b then 1 else 0)) S
  | .abs, .int i => .ok (.int (if i < 0 then -i else i)) S
  | .str, .int i => if i.natAbs.log2 < 1920 then .ok (.str (toString i)) S else .bad
  | .repr, x => may (toP S x) fun p => if p.showable = true ∧ p.hasDict = false ∧ p.shown.length ≤ sizeLine ∧ p.depth ≤ 1000 then .ok (.str p.shown) S else .bad
  | _, _ => .bad
def fn2D (f : F2) (x y : D) (S : Sto) : Res D :=
  match f, x, y with
  | .min, .int i, .int j => .ok (.int (if j < i then j else i)) S
  | .max, .int i, .int j => .ok (.int (if j > i then j else i)) S
  | .gcd, .int i, .int j => .ok (.int ((Nat.gcd i.natAbs j.natAbs : Nat) : Int)) S
  | _, _, _ => .bad
def tyB (t : Ty) (S : Sto) : D → Option Bool
  | .non => some false
  | .bl _ => some (match t with | .int => true | .bool => true | _ => false)
  | .int _ => some (match t with | .int => true | _ => false)
  | .str _ => some (match t with | .str => true | _ => false)
  | .tup _ => some (match t with | .tuple => true | _ => false)
  | .fix _ => some false
  | .ref i => match S[i]? with
    | some (.lst _) => some false
    | _ => none
/-- a tuple as a dict's key -/
def keyT : D → Option NestedKey
  | .tup ds => (nksOf ds).bind fun ks => if (NestedKey.tup ks).depth ≤ 8 then some (.tup ks) else none
  | _ => none
def idxT (a : Nat) (k : NestedKey) (S : Sto) : Res D := match S[a]? with
  | some (.dkt ks) => may (gT ks k) fun d => .ok d S
  | _ => .bad
def idxD (x i : D) (S : Sto) : Res D :=
  match x, i with
  | .ref a, .tup ds => may (keyT (.tup ds)) fun k => idxT a k S
  | .tup ds, .int i => may (atI ds i) fun d => .ok d S
  | .fix ds, .int i => may (atI ds i) fun d => .ok d S
  | .ref a, .int i => match S[a]? with
    | some (.lst ds) => may (atI ds i) fun d => .ok d S
    | some (.dic ks) => may (gD ks (.inl i)) fun d => .ok d S
    | some (.frd ks) => may (gD ks (.inl i)) fun d => .ok d S
    | _ => .bad
  | .ref a, .str z => match S[a]? with
    | some (.dic ks) => may (gD ks (.inr z)) fun d => .ok d S
    | some (.frd ks) => may (gD ks (.inr z)) fun d => .ok d S
    | _ => .bad
  | .str z, .int i => if z.length ≤ sizeLine then may (atI z.cps.toList i) fun c => .ok (.str ⟨#[c]⟩) S else .bad
  | _, _ => .bad
def cutD (ds : List D) (lo hi : Option Int) : List D := (ds.drop (HT.sIx ds.length 0 lo)).take (HT.sIx ds.length ds.length hi - HT.sIx ds.length 0 lo)
def slcD (x : D) (lo hi : Option Int) (S : Sto) : Res D :=
  match x with
  | .tup ds => .ok (.tup (cutD ds lo hi)) S
  | .fix ds => .ok (.ref S.length) (S ++ [.lst (cutD ds lo hi)])
  | .ref a => match S[a]? with
    | some (.lst ds) => .ok (.ref S.length) (S ++ [.lst (cutD ds lo hi)])
    | _ => .bad
  | .str z => if z.length ≤ sizeLine then .ok (.str (cutS z lo hi)) S else .bad
  | _ => .bad
/-- a list of the store -/
def withL {α : Type} (S : Sto) (x : D) (f : Nat → List D → Res α) : Res α :=
  match x with
  | .ref a => match S[a]? with
    | some (.lst ds) => f a ds
    | _ => .bad
  | _ => .bad
/-- a dict of the store -/
def withD {α : Type} (S : Sto) (x : D) (f : Nat → List (Key × D) → Res α) : Res α :=
  match x with
  | .ref a => match S[a]? with
    | some (.dic ks) => f a ks
    | _ => .bad
  | _ => .bad
/-- a dict of the store that is only read -/
def withR {α : Type} (S : Sto) (x : D) (f : Nat → List (Key × D) → Res α) : Res α :=
  match x with
  | .ref a => match S[a]? with
    | some (.dic ks) => f a ks
    | some (.frd ks) => f a ks
    | _ => .bad
  | _ => .bad
/-- any dict of the store -/
def withK {α : Type} (S : Sto) (x : D) (f : Res α) : Res α :=
  match x with
  | .ref a => match S[a]? with
    | some (.dic _) => f
    | some (.frd _) => f
    | some (.dkt _) => f
    | _ => .bad
  | _ => .bad
def isDic (S : Sto) : D → Bool
  | .ref a => match S[a]? with
    | some (.dic _) => true
    | _ => false
  | _ => false
/-- a store into a dict with tuple keys -/
def setT (x : D) (k : NestedKey) (v : D) (S : Sto) : Res Unit := match x with
  | .ref a => match S[a]? with
    | some (.dic []) => .ok () (S.set a (.dkt [(k, v)]))
    | some (.dkt ks) => if ks.length < sizeLine then .ok () (S.set a (.dkt (pT ks k v))) else .bad
    | _ => .bad
  | _ => .bad
def setD0 (x i v : D) (S : Sto) : Res Unit := if isDic S x = true then (withD S x fun a ks => may (keyOf i) fun k => if ks.length < sizeLine then .ok () (S.set a (.dic (pD ks k v))) else .bad) else withL S x fun a ds => match i with
  | .int i => may (ixN ds.length i) fun j => .ok () (S.set a (.lst (ds.set j v)))
  | _ => .bad
def setD (x i v : D) (S : Sto) : Res Unit := match keyT i with
  | some k => setT x k v S
  | none => setD0 x i v S
/-- what is changed at a place -/
def getD (x i : D) (S : Sto) : Res D := match x with
  | .ref _ => idxD x i S
  | _ => .bad
/-- d.get(k, y) -/
def dgetT (x : D) (k : NestedKey) (y : D) (S : Sto) : Res D := may (tabOf S (.val x)) fun ks => .ok ((gT ks k).getD y) S
/-- d.setdefault(k, y) -/
def setdT (x : D) (k : NestedKey) (y : D) (S : Sto) : Res D := match x with
  | .ref a => match S[a]? with
    | some (.dic []) => .ok y (S.set a (.dkt [(k, y)]))
    | some (.dkt ks) => if ks.length < sizeLine then (match gT ks k with
      | some d => .ok d S
      | none => .ok y (S.set a (.dkt (ks ++ [(k, y)])))) else .bad
    | _ => .bad
  | _ => .bad
def setdD (x k y : D) (S : Sto) : Res D := match keyT k with
  | some t => setdT x t y S
  | none => withD S x fun a ks => may (keyOf k) fun j => if ks.length < sizeLine then (match gD ks j with
    | some d => .ok d S
    | none => .ok y (S.set a (.dic (pD ks j y)))) else .bad
def dgetK (x k y : D) (S : Sto) : Res D := withR S x fun _ ks => may (keyOf k) fun k => .ok ((gD ks k).getD y) S
def dgetD (x k y : D) (S : Sto) : Res D := match keyT k with
  | some t => dgetT x t y S
  | none => dgetK x k y S
def appD (x v : D) (S : Sto) : Res D := withL S x fun a ds => if ds.length < sizeLine then .ok .non (S.set a (.lst (ds ++ [v]))) else .bad
def extD (x : D) (r : RV) (S : Sto) : Res D := withL S x fun a ds => may (trOf S r) fun es => if ds.length + es.length ≤ sizeLine then .ok .non (S.set a (.lst (ds ++ es))) else .bad
def popD (x : D) (S : Sto) : Res D := withL S x fun a ds => may ds[ds.length - 1]? fun d => .ok d (S.set a (.lst ds.dropLast))
def popAtD (x i : D) (S : Sto) : Res D := withL S x fun a ds => match i with
  | .int i => if -(2 ^ 63) ≤ i ∧ i < 2 ^ 63 then may (seqIndex? i ds.length) fun k => may ds[k]? fun d => .ok d (S.set a (.lst (ds.eraseIdx k))) else .bad
  | _ => .bad
def insD (x i v : D) (S : Sto) : Res D := withL S x fun a ds => match i with
  | .int i => if 0 ≤ i ∧ i < 2 ^ 63 ∧ ds.length < sizeLine then .ok .non (S.set a (.lst (ds.take i.toNat ++ [v] ++ ds.drop i.toNat))) else .bad
  | _ => .bad
/-- a target takes a value -/
def setAll : List Nat → List D → En → Option En
  | [], [], ρ => some ρ
  | i :: is, d :: ds, ρ => setAll is ds (ρ.set i (some d))
  | _, _, _ => none
def bindN (g : CN) (d : D) (ρ : En) (S : Sto) : Option En :=
  match g with
  | .nm i => some (ρ.set i (some d))
  | .tup is => (sqOf S (.val d)).bind fun ds => setAll is ds ρ
/-- flows -/
inductive Fl
  | nx (ρ : En)
  | bk (ρ : En)
  | ct (ρ : En)
  | rt (d : D)
/-- what is walked: the items, and whether the walked list must stand still -/
structure Itv where
  items : List D
  at_ : Option Nat
def Itv.still (t : Itv) (S : Sto) : Prop := match t.at_ with
  | none => True
  | some i => S[i]? = some (.lst t.items)
noncomputable def loopQ (C : Sto → Prop) (f : D → Sto → Res (Option D)) : List D → Sto → Res (List D)
  | [], S => ask (C S) (.ok [] S)
  | d :: ds, S => ask (C S) ((f d S).bind fun o S1 => (loopQ C f ds S1).bind fun r S2 => .ok (match o with | some x => x :: r | none => r) S2)
noncomputable def loopS (C : Sto → Prop) (f : D → En → Sto → Res Fl) : List D → En → Sto → Res Fl
  | [], ρ, S => ask (C S) (.ok (.nx ρ) S)
  | d :: ds, ρ, S => ask (C S) ((f d ρ S).bind fun fl S1 => match fl with
    | .nx ρ' => loopS C f ds ρ' S1
    | .ct ρ' => loopS C f ds ρ' S1
    | .bk ρ' => .ok (.nx ρ') S1
    | .rt d => .ok (.rt d) S1)
def whileS (t : En → Sto → Res Bool) (b : En → Sto → Res Fl) : Nat → En → Sto → Res Fl
  | 0, _, _ => .bad
  | n + 1, ρ, S => (t ρ S).bind fun c S1 => if c = true then (b ρ S1).bind fun fl S2 => (match fl with
      | .nx ρ' => whileS t b n ρ' S2
      | .ct ρ' => whileS t b n ρ' S2
      | .bk ρ' => .ok (.nx ρ') S2
      | .rt d => .ok (.rt d) S2) else .ok (.nx ρ) S1
def turns : Nat := 1000000000000
def wipeE (ρ : En) : List Nat → En
  | [] => ρ
  | v :: vs => (wipeE ρ vs).set v none
def rgD (i j : Int) : List D := (List.range (j - i).toNat).map fun k => D.int (i + (k : Nat))
/-- range(i, j, -1) -/
def rgdD (i j : Int) : List D := (List.range (i - j).toNat).map fun k => D.int (i - (k : Nat))
def bd62 (i : Int) : Prop := -(2 ^ 62) ≤ i ∧ i < 2 ^ 62
abbrev Orc := Nat → List D → Sto → Res D
def itOf (r : RV) (S : Sto) : Option Itv := match r with
  | .val (.str z) => some ⟨lettersD z, none⟩
  | .val (.ref i) => (sqOf S r).map fun ds => ⟨ds, some i⟩
  | r => (sqOf S r).map fun ds => ⟨ds, none⟩
/-- the dict that a loop walks by its name -/
def keyD : Key → D
  | .inl i => .int i
  | .inr z => .str z
def dcAt : CI → En → Sto → Option (Nat × List (Key × D))
  | .r (.e (.var i)), ρ, S => match ρ[i]? with
    | some (some (.ref a)) => match S[a]? with
      | some (.dic ks) => some (a, ks)
      | _ => none
    | _ => none
  | _, _, _ => none
def flatD : D → Bool
  | .non => true
  | .bl _ => true
  | .int _ => true
  | .str _ => true
  | _ => false
def eqF : D → D → Bool
  | .non, .non => true
  | .bl a, .bl b => a == b
  | .bl a, .int b => (if a then 1 else 0) == b
  | .int a, .bl b => a == (if b then 1 else 0)
  | .int a, .int b => a == b
  | .str a, .str b => a == b
  | _, _ => false
/-- one letter in a text -/
def signIn (x : D) (r : RV) : Option Bool := match x, r with
  | .str ⟨⟨[c]⟩⟩, .val (.str z) => some (decide (c ∈ z.cps.toList))
  | _, _ => none
def inD (x : D) (r : RV) (S : Sto) : Option Bool := match sqOf S r with
  | some ds => if (flatD x && ds.all flatD) = true then some (ds.any fun y => eqF y x) else (match lsOf S r with
    | some ds => (match toP S x, toPs S ds with
      | some p, some ps => if (shp p && shp (.list ps)) = true then some (ps.any fun q => PyData.eqv q p) else none
      | _, _ => none)
    | none => none)
  | none => match signIn x r with
    | some b => some b
    | none => match dicOf S r, keyOf x with
      | some ks, some k => some (gD ks k).isSome
      | _, _ => match tabOf S r, keyT x with
        | some ks, some k => some (gT ks k).isSome
        | _, _ => none
/-- x.index(y), of data -/
def ixD (x y : D) (S : Sto) : Option Nat := match toP S x, toP S y with
  | some (.list ps), some p => if (shp p && shp (.list ps)) = true then ps.findIdx? (fun q => PyData.eqv q p) else none
  | some (.tuple ps), some p => if (shp p && shp (.list ps)) = true then ps.findIdx? (fun q => PyData.eqv q p) else none
  | _, _ => none
/-- t.index(i), of numbers, or of data -/
def tixD (ds : List D) (y : D) (S : Sto) : Res D := match y with
  | .int z => may (intsOf ds) fun ns => if z ∈ ns then .ok (.int ((ns.idxOf z : Nat) : Int)) S else .bad
  | y => may (ixD (.tup ds) y S) fun j => .ok (.int (j : Nat)) S
noncomputable def sortD (S : Sto) (ds : List D) : Res (List D) := match toPs S ds with
  | some ps => ask (PySem.W.AllAlike ps ∧ PySem.W.Sortable ps ∧ ∀ p ∈ ps, p.depth ≤ 64) (.ok (ds.mergeSort (PySem.W.dataLe false fun d => (toP S d).getD .none)) S)
  | none => .bad

/-- t[::-1]: a tuple stays a tuple, of a list comes a list -/
def rvD (r : RV) (S : Sto) : Res D := match r with
  | .val (.tup ds) => .ok (.tup ds.reverse) S
  | r => may (lsOf S r) fun ds => .ok (.ref S.length) (S ++ [.lst ds.reverse])
/-- sorted(set(xs)), of ints -/
def insU (x : Int) : List Int → List Int
  | [] => [x]
  | y :: r => if x < y then x :: y :: r else if x = y then y :: r else y :: insU x r
def sortU (ns : List Int) : List Int := ns.foldr insU []
theorem mem_insU {x z : Int} : ∀ {l : List Int}, z ∈ insU x l ↔ z = x ∨ z ∈ l
  | [] => by simp [insU]
  | y :: r => by
    unfold insU
    split
    · simp
    · split
      · rename_i e; subst e; simp
      · simp only [List.mem_cons, mem_insU (l := r)]
        constructor <;> (intro h; rcases h with h | h | h <;> simp [h])
theorem mem_sortU {z : Int} : ∀ {l : List Int}, z ∈ sortU l ↔ z ∈ l
  | [] => by simp [sortU]
  | y :: r => by
    show z ∈ insU y (sortU r) ↔ _
    rw [mem_insU, mem_sortU (l := r), List.mem_cons]
theorem insU_ris {x : Int} : ∀ {l : List Int}, l.Pairwise (· < ·) → (insU x l).Pairwise (· < ·)
  | [], _ => by simp [insU]
  | y :: r, h => by
    obtain ⟨h1, h2⟩ := List.pairwise_cons.mp h
    unfold insU
    split
    · rename_i c
      refine List.pairwise_cons.mpr ⟨fun z hz => ?_, h⟩
      rcases List.mem_cons.mp hz with rfl | hz
      · exact c
      · exact Int.lt_trans c (h1 z hz)
    · split
      · exact h
      · refine List.pairwise_cons.mpr ⟨fun z hz => ?_, insU_ris h2⟩
        rcases mem_insU.mp hz with rfl | hz
        · omega
        · exact h1 z hz
theorem sortU_ris : ∀ (l : List Int), (sortU l).Pairwise (· < ·)
  | [] => List.Pairwise.nil
  | _ :: r => insU_ris (sortU_ris r)
theorem ris_ext : ∀ {a b : List Int}, a.Pairwise (· < ·) → b.Pairwise (· < ·) → (∀ z, z ∈ a ↔ z ∈ b) → a = b
  | [], [], _, _, _ => rfl
  | [], y :: b, _, _, h => by have := (h y).mpr List.mem_cons_self; cases this
  | x :: a, [], _, _, h => by have := (h x).mp List.mem_cons_self; cases this
  | x :: a, y :: b, ha, hb, h => by
    obtain ⟨a1, a2⟩ := List.pairwise_cons.mp ha
    obtain ⟨b1, b2⟩ := List.pairwise_cons.mp hb
    have e : x = y := by
      rcases List.mem_cons.mp ((h x).mp List.mem_cons_self) with e | e
      · exact e
      · rcases List.mem_cons.mp ((h y).mpr List.mem_cons_self) with e2 | e2
        · exact e2.symm
        · have := b1 x e; have := a1 y e2; omega
    subst e
    rw [ris_ext a2 b2 fun z => ⟨fun hz => ?_, fun hz => ?_⟩]
    · rcases List.mem_cons.mp ((h z).mp (List.mem_cons_of_mem _ hz)) with e | e
      · have := a1 z hz; omega
      · exact e
    · rcases List.mem_cons.mp ((h z).mpr (List.mem_cons_of_mem _ hz)) with e | e
      · have := b1 z hz; omega
      · exact e

mutual
noncomputable def evE (C : Orc) : CE → En → Sto → Res D
  | .var i, ρ, S => may ((ρ[i]?).bind id) fun d => .ok d S
  | .lit d, _, S => .ok d S
  | .tup es, ρ, S => (evEs C es ρ S).bind fun ds S1 => ask (ds.length ≤ sizeLine) (.ok (.tup ds) S1)
  | .alloc q, ρ, S => (evQ C q ρ S).bind fun ds S1 => .ok (.ref S1.length) (S1 ++ [.lst ds])
  | .bin o a b, ρ, S => (evE C a ρ S).bind fun x S1 => (evE C b ρ S1).bind fun y S2 => binD o x y S2
  | .neg a, ρ, S => (evE C a ρ S).bind fun x S1 => match x with
    | .int i => .ok (.int (-i)) S1
    | _ => .bad
  | .cmp o a b, ρ, S => (evE C a ρ S).bind fun x S1 => (evE C b ρ S1).bind fun y S2 => cmpD o x y S2
  | .chn o p a b c, ρ, S => (evE C a ρ S).bind fun x S1 => (evE C b ρ S1).bind fun y S2 => (cmpD o x y S2).bind fun z S3 => match z with
    | .bl true => (evE C c ρ S3).bind fun w S4 => cmpD p y w S4
    | .bl false => .ok (.bl false) S3
    | _ => .bad
  | .isN a, ρ, S => (evE C a ρ S).bind fun x S1 => .ok (.bl (isNon x)) S1
  | .notN a, ρ, S => (evE C a ρ S).bind fun x S1 => .ok (.bl (!isNon x)) S1
  | .inr a r, ρ, S => (evE C a ρ S).bind fun x S1 => (evR C r ρ S1).bind fun v S2 => may (inD x v S2) fun b => .ok (.bl b) S2
  | .notInr a r, ρ, S => (evE C a ρ S).bind fun x S1 => (evR C r ρ S1).bind fun v S2 => may (inD x v S2) fun b => .ok (.bl (!b)) S2
  | .and a b, ρ, S => (evE C a ρ S).bind fun x S1 => may (tru S1 x) fun k => if k = true then evE C b ρ S1 else .ok x S1
  | .or a b, ρ, S => (evE C a ρ S).bind fun x S1 => may (tru S1 x) fun k => if k = true then .ok x S1 else evE C b ρ S1
  | .not a, ρ, S => (evE C a ρ S).bind fun x S1 => may (tru S1 x) fun k => .ok (.bl (!k)) S1
  | .ife t a b, ρ, S => (evT C t ρ S).bind fun k S1 => if k = true then evE C a ρ S1 else evE C b ρ S1
  | .idx a i, ρ, S => (evE C a ρ S).bind fun x S1 => (evE C i ρ S1).bind fun y S2 => idxD x y S2
  | .slc a lo hi, ρ, S => (evE C a ρ S).bind fun x S1 => (evO C lo ρ S1).bind fun l S2 => (evO C hi ρ S2).bind fun u S3 => slcD x l u S3
  | .call f es, ρ, S => (evEs C es ρ S).bind fun ds S1 => C f ds S1
  | .fn1 f a, ρ, S => (evE C a ρ S).bind fun x S1 => fn1D f x S1
  | .fn2 f a b, ρ, S => (evE C a ρ S).bind fun x S1 => (evE C b ρ S1).bind fun y S2 => fn2D f x y S2
  | .agg f r, ρ, S => (evR C r ρ S).bind fun v S1 => aggD f v S1
  | .isi a t, ρ, S => (evE C a ρ S).bind fun x S1 => may (tyB t S1 x) fun b => .ok (.bl b) S1
  | .app l x, ρ, S => (evE C l ρ S).bind fun o S1 => withL S1 o fun _ _ => (evE C x ρ S1).bind fun v S2 => appD o v S2
  | .ext l r, ρ, S => (evE C l ρ S).bind fun o S1 => withL S1 o fun _ _ => (evR C r ρ S1).bind fun v S2 => extD o v S2
  | .pop l, ρ, S => (evE C l ρ S).bind fun o S1 => popD o S1
  | .popAt l i, ρ, S => (evE C l ρ S).bind fun o S1 => withL S1 o fun _ _ => (evE C i ρ S1).bind fun v S2 => popAtD o v S2
  | .join s r, ρ, S => (evR C r ρ S).bind fun v S1 => may (sqOf S1 v) fun ds => may (strsOf ds) fun ys => ask ((ys.map (·.length)).sum + ys.length * s.length ≤ 16777216) (.ok (.str (Txt.join s ys)) S1)
  | .tix a i, ρ, S => (evE C a ρ S).bind fun x S1 => match x with
    | .tup ds => (evE C i ρ S1).bind fun y S2 => tixD ds y S2
    | .ref j => withL S1 (.ref j) fun _ _ => (evE C i ρ S1).bind fun y S2 => may (ixD (.ref j) y S2) fun n => .ok (.int (n : Nat)) S2
    | _ => .bad
  | .ins l i x, ρ, S => (evE C l ρ S).bind fun o S1 => withL S1 o fun _ _ => (evE C i ρ S1).bind fun y S2 => (evE C x ρ S2).bind fun v S3 => insD o y v S3
  | .dnew, _, S => .ok (.ref S.length) (S ++ [.dic []])
  | .dget a k x, ρ, S => (evE C a ρ S).bind fun o S1 => withK S1 o ((evE C k ρ S1).bind fun y S2 => (evE C x ρ S2).bind fun z S3 => dgetD o y z S3)
  | .dsetd a k x, ρ, S => (evE C a ρ S).bind fun o S1 => withK S1 o ((evE C k ρ S1).bind fun y S2 => (evE C x ρ S2).bind fun z S3 => setdD o y z S3)
  | .rv r, ρ, S => (evR C r ρ S).bind fun v S1 => rvD v S1
noncomputable def evO (C : Orc) : CO → En → Sto → Res (Option Int)
  | .none, _, S => .ok none S
  | .some e, ρ, S => (evE C e ρ S).bind fun x S1 => match x with
    | .int i => .ok (some i) S1
    | _ => .bad
noncomputable def evEs (C : Orc) : CEs → En → Sto → Res (List D)
  | .nil, _, S => .ok [] S
  | .cons a r, ρ, S => (evE C a ρ S).bind fun d S1 => (evEs C r ρ S1).bind fun ds S2 => .ok (d :: ds) S2
noncomputable def evQ (C : Orc) : CQ → En → Sto → Res (List D)
  | .disp es, ρ, S => (evEs C es ρ S).bind fun ds S1 => ask (ds.length ≤ sizeLine) (.ok ds S1)
  | .comp own g it elt, ρ, S => (evI C it ρ S).bind fun t S1 => ask (t.items.length ≤ sizeLine) (loopQ t.still (fun d S2 => may (bindN g d (wipeE ρ own) S2) fun ρ' => (evE C elt ρ' S2).bind fun x S3 => .ok (some x) S3) t.items S1)
  | .compIf own g it c elt, ρ, S => (evI C it ρ S).bind fun t S1 => ask (t.items.length ≤ sizeLine) (loopQ t.still (fun d S2 => may (bindN g d (wipeE ρ own) S2) fun ρ' => (evT C c ρ' S2).bind fun k S3 => if k = true then (evE C elt ρ' S3).bind fun x S4 => .ok (some x) S4 else .ok none S3) t.items S1)
  | .cat a b, ρ, S => (evR C a ρ S).bind fun v S1 => (evR C b ρ S1).bind fun w S2 => may (trOf S2 v) fun x => may (trOf S2 w) fun y => ask (x.length + y.length ≤ sizeLine) (.ok (x ++ y) S2)
  | .sorted r, ρ, S => (evR C r ρ S).bind fun v S1 => may (soOf S1 v) fun ds => sortD S1 ds
  | .list r, ρ, S => (evR C r ρ S).bind fun v S1 => may (lstOf S1 v) fun ds => .ok ds S1
  | .listRg a b, ρ, S => (evE C a ρ S).bind fun x S1 => (evE C b ρ S1).bind fun y S2 => match x, y with
    | .int i, .int j => ask (RgOk i j) (.ok (rgD i j) S2)
    | _, _ => .bad
  | .rev r, ρ, S => (evR C r ρ S).bind fun v S1 => may (lsOf S1 v) fun ds => .ok ds.reverse S1
  | .sset r, ρ, S => (evR C r ρ S).bind fun v S1 => may (lsOf S1 v) fun ds => may (intsOf ds) fun ns => ask (ns.length < 64) (.ok ((sortU ns).map .int) S1)
noncomputable def evR (C : Orc) : CR → En → Sto → Res RV
  | .q c, ρ, S => (evQ C c ρ S).bind fun ds S1 => .ok (.own ds) S1
  | .e c, ρ, S => (evE C c ρ S).bind fun d S1 => .ok (.val d) S1
noncomputable def evI (C : Orc) : CI → En → Sto → Res Itv
  | .r c, ρ, S => (evR C c ρ S).bind fun v S1 => may (itOf v S1) fun t => .ok t S1
  | .rg a b, ρ, S => (evE C a ρ S).bind fun x S1 => (evE C b ρ S1).bind fun y S2 => match x, y with
    | .int i, .int j => ask (bd62 i ∧ bd62 j) (.ok ⟨rgD i j, none⟩ S2)
    | _, _ => .bad
  | .rgd a b, ρ, S => (evE C a ρ S).bind fun x S1 => (evE C b ρ S1).bind fun y S2 => match x, y with
    | .int i, .int j => ask (bd62 i ∧ bd62 j) (.ok ⟨rgdD i j, none⟩ S2)
    | _, _ => .bad
noncomputable def evT (C : Orc) : CT → En → Sto → Res Bool
  | .v e, ρ, S => (evE C e ρ S).bind fun x S1 => may (tru S1 x) fun k => .ok k S1
  | .and a b, ρ, S => (evT C a ρ S).bind fun k S1 => if k = true then evT C b ρ S1 else .ok false S1
  | .or a b, ρ, S => (evT C a ρ S).bind fun k S1 => if k = true then .ok true S1 else evT C b ρ S1
  | .not a, ρ, S => (evT C a ρ S).bind fun k S1 => .ok (!k) S1
end
mutual
noncomputable def evS (C : Orc) : CS → En → Sto → Res Fl
  | .set g e, ρ, S => (evE C e ρ S).bind fun d S1 => may (bindN g d ρ S1) fun ρ' => .ok (.nx ρ') S1
  | .par i j a b, ρ, S => (evE C a ρ S).bind fun x S1 => (evE C b ρ S1).bind fun y S2 => .ok (.nx ((ρ.set i (some x)).set j (some y))) S2
  | .sub o i e, ρ, S => (evE C e ρ S).bind fun d S1 => (evE C o ρ S1).bind fun x S2 => (evE C i ρ S2).bind fun y S3 => (setD x y d S3).bind fun _ S4 => .ok (.nx ρ) S4
  | .aug i p e, ρ, S => may ((ρ[i]?).bind id) fun x => (evE C e ρ S).bind fun y S1 => (augD p x y S1).bind fun z S2 => .ok (.nx (ρ.set i (some z))) S2
  | .augS o i p e, ρ, S => (evE C o ρ S).bind fun x S1 => (evE C i ρ S1).bind fun y S2 => (getD x y S2).bind fun v S3 => (evE C e ρ S3).bind fun w S4 => (augD p v w S4).bind fun z S5 => (setD x y z S5).bind fun _ S6 => .ok (.nx ρ) S6
  | .ex e, ρ, S => (evE C e ρ S).bind fun _ S1 => .ok (.nx ρ) S1
  | .ret e, ρ, S => (evE C e ρ S).bind fun d S1 => .ok (.rt d) S1
  | .ite t a b, ρ, S => (evT C t ρ S).bind fun k S1 => if k = true then evSs C a ρ S1 else evSs C b ρ S1
  | .for g it b, ρ, S => match dcAt it ρ S with
    | some (a, ks) => (loopS (fun S2 => S2[a]? = some (.frd ks)) (fun d ρ1 S2 => may (bindN g d ρ1 S2) fun ρ2 => evSs C b ρ2 S2) (ks.map fun p => keyD p.1) ρ (S.set a (.frd ks))).bind fun fl S3 => ask (S3[a]? = some (.frd ks)) (.ok fl (S3.set a (.dic ks)))
    | none => (evI C it ρ S).bind fun t S1 => loopS t.still (fun d ρ1 S2 => may (bindN g d ρ1 S2) fun ρ2 => evSs C b ρ2 S2) t.items ρ S1
  | .while t b, ρ, S => whileS (evT C t) (evSs C b) turns ρ S
  | .brk, ρ, S => .ok (.bk ρ) S
  | .cont, ρ, S => .ok (.ct ρ) S
  | .pass, ρ, S => .ok (.nx ρ) S
  | .raise, _, _ => .bad
noncomputable def evSs (C : Orc) : CSs → En → Sto → Res Fl
  | .nil, ρ, S => .ok (.nx ρ) S
  | .cons s r, ρ, S => (evS C s ρ S).bind fun fl S1 => match fl with
    | .nx ρ' => evSs C r ρ' S1
    | f => .ok f S1
end
end PQ

/-! What the language says, the machine does: expressions. -/
namespace L2
open PySem PySem.Spec PyProof.Rows
theorem PE.pq {X : Cx} {e : Expr} {t t' : TE} (h : PE X e t) (q : ∀ σ H Q, t' σ H Q → t σ H Q) : PE X e t' := ⟨fun pins s σ H Q I hw => h.run pins s σ H Q I (q σ H Q hw)⟩
theorem PT.pq {X : Cx} {e : Expr} {t t' : TT} (h : PT X e t) (q : ∀ σ H Q, t' σ H Q → t σ H Q) : PT X e t' := ⟨fun pins s σ H Q I hw => h.run pins s σ H Q I (q σ H Q hw)⟩
theorem PW.pq {X : Cx} {e : Expr} {t t' : TT} (h : PW X e t) (q : ∀ σ H Q, t' σ H Q → t σ H Q) : PW X e t' := ⟨fun w pins s σ H Q I hw => h.run w pins s σ H Q I (q σ H Q hw)⟩
theorem PA.pq {X : Cx} {e : List Expr} {t t' : TA} (h : PA X e t) (q : ∀ σ H Q, t' σ H Q → t σ H Q) : PA X e t' := ⟨fun pos pins s σ H Q I hw => h.run pos pins s σ H Q I (q σ H Q hw)⟩
theorem PO.pq {X : Cx} {e : Option Expr} {t t' : TO} (h : PO X e t) (q : ∀ σ H Q, t' σ H Q → t σ H Q) : PO X e t' := ⟨fun pins s σ H Q I hw => h.run pins s σ H Q I (q σ H Q hw)⟩

/-! ### defs called where nothing is being shown (no repr under way) -/
structure FnG (P : Program) (w : World) (K : PySem.W.Frag) (mg : Str → Option Value) (bh : Heap) (CX : CXT) (k : Nat) (f : Addr) (fd : FuncData) (ps : List Str) (sp : Sp) : Prop where
  ln : ∀ xs H Q E, sp xs H Q E → xs.length = ps.length
  go : ∀ (A : Around) (out : List Env) (s : Shared) (H : Hp) (ar : Args) (us : List Value) (xs : List V) (Q : VK) (E : XK), (Room k A ∧ A.guards = some []) → Env0 P w K mg bh A out s H → BindsTo s fd ar (ps.zip us) → Vals xs us → sp xs H Q E → codeAny (model P w) A (.call (.ref f) ar) (CR CX out P w H s Q E) s
theorem FnG.imp {P : Program} {w : World} {K : PySem.W.Frag} {mg : Str → Option Value} {bh : Heap} {CX : CXT} {k : Nat} {f : Addr} {fd : FuncData} {ps : List Str} {sp sp' : Sp} (F : FnG P w K mg bh CX k f fd ps sp) (q : ∀ xs H Q E, sp' xs H Q E → sp xs H Q E) : FnG P w K mg bh CX k f fd ps sp' :=
  ⟨fun xs H Q E z => F.ln xs H Q E (q _ _ _ _ z), fun A out s H ar us xs Q E hr he hb hv z => F.go A out s H ar us xs Q E hr he hb hv (q _ _ _ _ z)⟩
theorem FunD.okG {P : Program} {w : World} {K : PySem.W.Frag} {mg : Str → Option Value} {bh : Heap} {CX : CXT} {k : Nat} {f : Addr} {fd : FuncData} {x qual : Str} {params : Arguments} {body : List Stmt} {scope : Scope} {dvs : List V} {kws : List (Str × V)} {N ps : List Str} {sp : Sp} (F : FunD K x qual params body scope dvs kws f fd) (S : FnScope N ps scope) (ln : ∀ xs H Q E, sp xs H Q E → xs.length = ps.length)
    (hb : ∀ (cv : Value) (A : Around) (out : List Env) (s : Shared) (H : Hp) (xs : List V) (Q : VK) (E : XK), Room k (A.deeper (envOfC qual scope s.heap.objs.size f cv)) → (A.deeper (envOfC qual scope s.heap.objs.size f cv)).guards = some [] → sp xs H Q E → ∃ t, PSs (cxOf CX P w K mg bh N qual scope f cv A out s H E) body t ∧ t { nx := fun _ H' => Q .non H', rt := Q } (start N xs) H) : FnG P w K mg bh CX (k + 1) f fd ps sp := by
  obtain ⟨oc, od, dV, kV, doc, pm, an, cv, ct, osl, rfl, lk, hcd, _, _⟩ := F.ex
  refine ⟨ln, fun A out s H ar us xs Q E ⟨hr, gu⟩ e0 bi rv z => ?_⟩
  have le := ln _ _ _ _ z
  have kin := e0.mod.kin.keeps fun b o e => (e0.bs b o e).1
  have lm := e0.mod.nolimit.keeps fun b o e => (e0.bs b o e).1
  refine codeAny_call_function hr.depth (kin _ _ lk) rfl S.co S.gen rfl (PySem.W.codeRec_of kin hcd) (bi _ _ _ _ ?_)
  refine wpAny_newFunctionEnv_cells S.kind (fun y hy => ?_) fun en he s1 x1 => ?_
  · rcases S.par y.1 (List.of_mem_zip (show (y.1, y.2) ∈ ps.zip us from hy)).1 with q | q
    · exact .inl q
    · exact .inr ⟨q, PySem.W.cellsFrom_some _ _ _ (.inl q)⟩
  · subst he
    refine ⟨lm.keeps x1.toInCall.keep, codeAny_func ?_⟩
    obtain ⟨t, ht, hq⟩ := hb cv A out s H xs Q E (hr.deeper _) gu z
    have J := inv_start (CX := CX) (E := E) S hr.hd e0 le rv x1
    refine wpAny_mono (ht.run [] s1 (start N xs) H _ J hq) (fun fl s' hs => ?_) fun _ _ h => h
    cases fl with
    | ret u =>
      obtain ⟨v, _, H', J', r', q'⟩ := hs
      exact ⟨v, H', J'.os, J'.bare, J'.base, J'.hok, r', q'⟩
    | next =>
      obtain ⟨_, H', J', q'⟩ := hs
      exact ⟨V.non, H', J'.os, J'.bare, J'.base, J'.hok, rfl, q'⟩
    | brk => exact hs.elim fun _ ⟨_, _, q'⟩ => False.elim q'
    | cont => exact hs.elim fun _ ⟨_, _, q'⟩ => False.elim q'
section
variable {X : Cx} {CX : CXT} {k : Nat} {f : Addr} {fd : FuncData} {ps : List Str} {sp : Sp} {ds : List Value} {dvs : List V} {E : XK} {x : Str} {p pos : Pos} {e : Expr} {es : List Expr} {t : TA}
theorem run_fnG {pins : List (Addr × Obj)} {σ : St} {H : Hp} {s : Shared} {Q : VK} {us : List Value} {xs : List V} (F : FnG X.prog X.w X.K X.mg X.base CX k f fd ps sp) (hr : Room k X.A ∧ X.A.guards = some []) (hb : Binds X.K fd ps ds) (hd : Vals dvs ds) (hx : Passes CX X E) (I : Inv X pins σ H s) (rv : Vals xs us) (z : sp (xs ++ dvs) H Q E) : wpAny (model X.prog X.w) X.A (call (.ref f) us) (EP X pins σ Q) X.xe s := by
  have r2 := rv.append hd
  have hl : (us ++ ds).length = ps.length := r2.length.symm.trans (F.ln _ _ _ _ z)
  refine wpAny_call (codeAny_mono (F.go X.A X.stack s H ⟨us, []⟩ (us ++ ds) (xs ++ dvs) Q E hr I.env0 (hb s us I.kIn hl) r2 z) fun r s' hq => ?_)
  match r, hq with
  | .error _, hq => exact hx pins σ H s _ s' I hq
  | .ok (.ret _), hq => exact I.after hq
  | .ok .next, hq => exact False.elim hq
  | .ok .brk, hq => exact False.elim hq
  | .ok .cont, hq => exact False.elim hq
theorem pe_callG (F : FnG X.prog X.w X.K X.mg X.base CX k f fd ps sp) (hr : Room k X.A ∧ X.A.guards = some []) (hg : Gl X x) (hm : X.mg x = some (.ref f)) (hk : PySem.W.keepIn X.K (.ref f) = true) (hb : Binds X.K fd ps ds) (hd : Vals dvs ds) (hx : Passes CX X E) (ha : PA X (e :: es) t) (hdb : (x == ("__debug__" : Str)) = false) (he : starEach (e :: es) X.env = (false, eval e X.env) :: starEach es X.env) (hpl : (backTo pos (starEach es X.env)).any (·.1) = false) : PE X (.Call (.Name x p) (e :: es) [] pos) (tCall sp dvs E t) :=
  ⟨fun pins s σ H Q I h => wpAny_Call_Name_kw (ld_glob I hg hm (PySem.W.callWith_K (h₀ := X.base) I.ok.mod.kin hk (thn (ha.run pos pins s σ H _ I h) fun _ _ ⟨_, _, I1, r, q⟩ => ⟨I1.kIn, run_fnG F hr hb hd hx I1 r q⟩) he hpl) hdb)⟩
theorem pe_callG0 (F : FnG X.prog X.w X.K X.mg X.base CX k f fd ps sp) (hr : Room k X.A ∧ X.A.guards = some []) (hg : Gl X x) (hm : X.mg x = some (.ref f)) (hk : PySem.W.keepIn X.K (.ref f) = true) (hb : Binds X.K fd ps ds) (hd : Vals dvs ds) (hx : Passes CX X E) (hdb : (x == ("__debug__" : Str)) = false) : PE X (.Call (.Name x p) [] [] pos) (tCall sp dvs E tNil) :=
  ⟨fun _ _ _ _ _ I h => wpAny_Call_Name_kw (ld_glob I hg hm (PySem.W.callWith_K0 I.kIn hk (run_fnG (us := []) F hr hb hd hx I .nil h)) hdb)⟩
end
end L2

namespace PQ
open PySem PySem.Spec PyProof.Rows L2
abbrev Slots := L2.St

section
variable {K : Fg} {μ μ' μ1 : List Addr} {H H' H1 : Hp} {S S' : Sto} {σ : Slots} {ρ : En} {α β : Type}
/-- an answer, and what is wanted behind it -/
def Po (K : Fg) (μ : List Addr) (H : Hp) (r : Res α) (P : α → Sto → List Addr → Hp → Prop) : Prop := match r with
  | .ok a S' => ∀ μ' H', Ext K μ H μ' H' → StOk K μ' H' S' → P a S' μ' H'
  | _ => False
theorem Po.later {r : Res α} {P : α → Sto → List Addr → Hp → Prop} (e : Ext K μ H μ' H') (h : Po K μ H r P) : Po K μ' H' r P := by
  cases r with
  | ok a S' => exact fun μ2 H2 e2 s2 => h μ2 H2 (e.trans e2) s2
  | exc c fs S' => exact h
  | bad => exact h
theorem Po.imp {r : Res α} {P P' : α → Sto → List Addr → Hp → Prop} (h : Po K μ H r P) (q : ∀ a S' μ' H', r = .ok a S' → Ext K μ H μ' H' → StOk K μ' H' S' → P a S' μ' H' → P' a S' μ' H') : Po K μ H r P' := by
  cases r with
  | ok a S' => exact fun μ2 H2 e2 s2 => q a S' μ2 H2 rfl e2 s2 (h μ2 H2 e2 s2)
  | exc c fs S' => exact h
  | bad => exact h
theorem Po.bind {r : Res α} {f : α → Sto → Res β} {P : β → Sto → List Addr → Hp → Prop} (h : Po K μ H (r.bind f) P) : Po K μ H r fun a S' μ' H' => Po K μ' H' (f a S') P := by
  cases r with
  | ok a S' => exact fun μ2 H2 e2 s2 => Po.later e2 h
  | exc c fs S' => exact h
  | bad => exact h
theorem Po.ask {p : Prop} {r : Res α} {P : α → Sto → List Addr → Hp → Prop} (h : Po K μ H (ask p r) P) : p ∧ Po K μ H r P := by
  unfold PQ.ask at h
  split at h
  · exact ⟨by assumption, h⟩
  · exact h.elim
theorem Po.ite {p : Prop} [Decidable p] {r : Res α} {P : α → Sto → List Addr → Hp → Prop} (h : Po K μ H (if p then r else .bad) P) : p ∧ Po K μ H r P := by
  split at h
  · exact ⟨by assumption, h⟩
  · exact h.elim
theorem Po.may {o : Option β} {f : β → Res α} {P : α → Sto → List Addr → Hp → Prop} (h : Po K μ H (may o f) P) : ∃ a, o = some a ∧ Po K μ H (f a) P := by
  cases o with
  | none => exact h.elim
  | some a => exact ⟨a, rfl, h⟩
theorem Po.at {a : α} {P : α → Sto → List Addr → Hp → Prop} (h : Po K μ H (.ok a S) P) (s : StOk K μ H S) : P a S μ H := h μ H .refl s

/-- the names -/
def EnvOk (K : Fg) (μ : List Addr) (H : Hp) (ρ : En) (σ : Slots) : Prop := σ.length = ρ.length ∧ ∀ (i : Nat) d, ρ[i]? = some (some d) → ∃ v, σ[i]? = some (some v) ∧ Rp K μ H d v
theorem EnvOk.mono (e : Ext K μ H μ' H') (h : EnvOk K μ H ρ σ) : EnvOk K μ' H' ρ σ := ⟨h.1, fun i d q => let ⟨v, e1, e2⟩ := h.2 i d q; ⟨v, e1, e2.mono e⟩⟩
theorem EnvOk.set (h : EnvOk K μ H ρ σ) {d : D} {v : V} (r : Rp K μ H d v) (i : Nat) : EnvOk K μ H (ρ.set i (some d)) (σ.set i (some v)) := by
  refine ⟨by rw [List.length_set, List.length_set]; exact h.1, fun j d' q => ?_⟩
  by_cases hj : i = j
  · subst hj
    by_cases hi : i < ρ.length
    · rw [List.getElem?_set_self hi] at q
      cases q
      exact ⟨v, List.getElem?_set_self (by rw [h.1]; exact hi), r⟩
    · rw [List.getElem?_eq_none (by rw [List.length_set]; omega)] at q
      cases q
  · rw [List.getElem?_set_ne hj] at q ⊢
    exact h.2 j d' q
theorem EnvOk.wipe (h : EnvOk K μ H ρ σ) : ∀ vs : List Nat, EnvOk K μ H (wipeE ρ vs) (wipe σ vs)
  | [] => h
  | v :: vs => by
    have ih := EnvOk.wipe h vs
    refine ⟨by unfold wipeE L2.wipe; rw [List.length_set, List.length_set]; exact ih.1, fun j d q => ?_⟩
    unfold wipeE at q
    unfold L2.wipe
    by_cases hj : v = j
    · subst hj
      by_cases hi : v < (wipeE ρ vs).length
      · rw [List.getElem?_set_self hi] at q; cases q
      · rw [List.getElem?_eq_none (by rw [List.length_set]; omega)] at q; cases q
    · rw [List.getElem?_set_ne hj] at q ⊢
      exact ih.2 j d q

/-- a walked thing as it stands -/
def RvR (K : Fg) (μ : List Addr) (H : Hp) : RV → V → Prop
  | .own ds, v => ∃ a vs, v = .ref a ∧ H a = some (.lst vs) ∧ a ∉ μ ∧ RpA K μ H ds vs ∧ ds.length ≤ sizeLine
  | .val d, v => Rp K μ H d v
theorem Ext.notin (e : Ext K μ H μ' H') {a : Addr} {o : HO} (h : H a = some o) (n : a ∉ μ) : a ∉ μ' := by
  obtain ⟨l, rfl, q⟩ := e.pre
  intro m
  rcases List.mem_append.mp m with m | m
  · exact n m
  · rw [q a m] at h; cases h
theorem RvR.mono (e : Ext K μ H μ' H') {r : RV} {v : V} (h : RvR K μ H r v) : RvR K μ' H' r v := by
  cases r with
  | own ds =>
    obtain ⟨a, vs, h1, h2, h3, h4, h5⟩ := h
    exact ⟨a, vs, h1, e.fr a _ h2 h3, e.notin h2 h3, h4.mono e, h5⟩
  | val d => exact Rp.mono e h

/-! ### readings -/
def tE (K : Fg) (f : En → Sto → Res D) : TE := fun σ H Q => ∃ μ ρ S, EnvOk K μ H ρ σ ∧ StOk K μ H S ∧ Po K μ H (f ρ S) fun d _ μ' H' => ∀ v, Rp K μ' H' d v → Q v H'
def tT (K : Fg) (f : En → Sto → Res Bool) : TT := fun σ H Q => ∃ μ ρ S, EnvOk K μ H ρ σ ∧ StOk K μ H S ∧ Po K μ H (f ρ S) fun b _ _ H' => Q b H'
def tA (K : Fg) (f : En → Sto → Res (List D)) : TA := fun σ H Q => ∃ μ ρ S, EnvOk K μ H ρ σ ∧ StOk K μ H S ∧ Po K μ H (f ρ S) fun ds _ μ' H' => ∀ vs, RpA K μ' H' ds vs → Q vs H'
def tQ (K : Fg) (f : En → Sto → Res (List D)) : TE := fun σ H Q => ∃ μ ρ S, EnvOk K μ H ρ σ ∧ StOk K μ H S ∧ Po K μ H (f ρ S) fun ds _ μ' H' => ∀ a vs, H a = none → H' a = some (.lst vs) → a ∉ μ' → RpA K μ' H' ds vs → ds.length ≤ sizeLine → Q (.ref a) H'
def tR (K : Fg) (f : En → Sto → Res RV) : TE := fun σ H Q => ∃ μ ρ S, EnvOk K μ H ρ σ ∧ StOk K μ H S ∧ Po K μ H (f ρ S) fun r _ μ' H' => ∀ v, RvR K μ' H' r v → Q v H'
def tO (K : Fg) (f : En → Sto → Res (Option Int)) : TO := fun σ H Q => ∃ μ ρ S, EnvOk K μ H ρ σ ∧ StOk K μ H S ∧ Po K μ H (f ρ S) fun o _ _ H' => Q o H'

/-- a def's promise: what the oracle says of it -/
def spC (K : Fg) (C : Orc) (f : Nat) : Sp := fun vs H Q _ => ∃ μ ds S, StOk K μ H S ∧ RpA K μ H ds vs ∧ Po K μ H (C f ds S) fun d _ μ' H' => ∀ v, Rp K μ' H' d v → Q v H'

/-- what a module's name stands for: a value that stays, a built-in function -/
inductive Gv
  | con (d : D)
  | fn (id : String)
def GvOk (K : Fg) (mg : Str → Option Value) (x : Str) : Gv → Prop
  | .con d => ∃ v u, mg x = some u ∧ RelV v u ∧ ∀ μ H, Rp K μ H d v
  | .fn id => mg x = some (.builtin id)
/-- the place where a text stands: the defs' names, the built-ins' names, the def's names, its scope, the module's other names -/
structure Pl where
  T : List Str
  B : List Str
  N : List Str
  sc : Scope
  G : List (Str × Gv)
structure Good (X : Cx) (p : Pl) (C : Orc) : Prop where
  calm : X.calm = true
  gu : X.A.guards = some []
  nd : X.N.Nodup
  un : X.A.units + 3100 < cLine
  own : PassesOwn (model X.prog X.w) X.A X.env X.xe
  N : X.N = p.N
  sc : X.env.scope = p.sc
  blt : ∀ x, x ∈ p.B → X.mg x = none
  glb : ∀ x g, (x, g) ∈ p.G → GvOk (fgX X) X.mg x g
  fn : ∀ (i : Nat) x, p.T[i]? = some x → ∃ f fd ps k, X.mg x = some (.ref f) ∧ FnG X.prog X.w (fgX X) X.mg X.base CX0 k f fd ps (spC (fgX X) C i) ∧ Room k X.A ∧ PySem.W.keepIn (fgX X) (.ref f) = true ∧ Binds (fgX X) fd ps []
end

/-! ### the judgements -/
def SdE (p : Pl) (e : Expr) (c : CE) : Prop := ∀ X C, Good X p C → PE X e (tE (fgX X) (evE C c))
def SdT (p : Pl) (e : Expr) (c : CT) : Prop := ∀ X C, Good X p C → PT X e (tT (fgX X) (evT C c))
def SdW (p : Pl) (e : Expr) (c : CT) : Prop := ∀ X C, Good X p C → PW X e (tT (fgX X) (evT C c))
def SdA (p : Pl) (es : List Expr) (c : CEs) : Prop := ∀ X C, Good X p C → PA X es (tA (fgX X) (evEs C c))
def SdQ (p : Pl) (e : Expr) (c : CQ) : Prop := ∀ X C, Good X p C → PE X e (tQ (fgX X) (evQ C c))
def SdR (p : Pl) (e : Expr) (c : CR) : Prop := ∀ X C, Good X p C → PE X e (tR (fgX X) (evR C c))
def SdO (p : Pl) (e : Option Expr) (c : CO) : Prop := ∀ X C, Good X p C → PO X e (tO (fgX X) (evO C c))

section
variable {p : Pl} {a b c e : Expr} {ca cb cc : CE} {pos : Pos}
/-! ### names, constants -/
theorem sd_var {i : Nat} {x : Str} (hN : p.N[i]? = some x) (hv : Vis p.sc x) (hd : (x == ("__debug__" : Str)) = false) (hcd : (x == ("__classdict__" : Str)) = false) : SdE p (.Name x pos) (.var i) := fun X C g =>
  (pe_var (i := i) (by rw [g.N]; exact hN) (by rw [g.sc]; exact hv) hd hcd).pq fun σ H Q ⟨μ, ρ, S, he, hs, h⟩ => by
    unfold evE at h
    obtain ⟨d, e1, h⟩ := h.may
    have e2 : ρ[i]? = some (some d) := by
      cases q : ρ[i]? with
      | none => rw [q] at e1; cases e1
      | some o => rw [q] at e1; exact congrArg some e1
    obtain ⟨v, q1, q2⟩ := he.2 i d e2
    exact ⟨v, q1, h.at hs v q2⟩
theorem sd_lit {d : D} {v : V} (h : ∀ X : Cx, PE X e (tC v)) (r : ∀ K μ H, Rp K μ H d v) : SdE p e (.lit d) := fun X C g =>
  (h X).pq fun σ H Q ⟨μ, ρ, S, he, hs, h⟩ => by
    unfold evE at h
    exact h.at hs v (r _ _ _)
theorem sd_int {i j} : SdE p (.Constant (.int i) j pos) (.lit (.int i)) := sd_lit (v := .int i) (fun _ => pe_int) fun _ _ _ => rfl
theorem sd_bl {i j} : SdE p (.Constant (.bool i) j pos) (.lit (.bl i)) := sd_lit (v := .bl i) (fun _ => pe_bl) fun _ _ _ => rfl
theorem sd_non {j} : SdE p (.Constant .none j pos) (.lit .non) := sd_lit (v := .non) (fun _ => pe_non) fun _ _ _ => rfl
theorem sd_str {x j} : SdE p (.Constant (.str x) j pos) (.lit (.str x)) := sd_lit (v := .str x) (fun _ => pe_str) fun _ _ _ => rfl

/-! ### argument lists, displays -/
theorem sa_nil : SdA p [] .nil := fun X C g => pa_nil.pq fun σ H Q ⟨μ, ρ, S, he, hs, h⟩ => by
  unfold evEs at h
  exact h.at hs [] rfl
theorem sa_cons {es : List Expr} {r : CEs} (ha : SdE p a ca) (hr : SdA p es r) (hs : ∀ env, starEach (a :: es) env = (false, eval a env) :: starEach es env) : SdA p (a :: es) (.cons ca r) := fun X C g =>
  (pa_cons (ha X C g) (hr X C g) (hs _)).pq fun σ H Q ⟨μ, ρ, S, he, hs, h⟩ => by
    unfold evEs at h
    refine ⟨μ, ρ, S, he, hs, h.bind.imp fun d S1 μ1 H1 _ e1 s1 h1 v rv => ?_⟩
    refine ⟨μ1, ρ, S1, he.mono e1, s1, h1.bind.imp fun ds S2 μ2 H2 _ e2 s2 h2 vs rvs => ?_⟩
    exact h2.at s2 (v :: vs) (.cons (rv.mono e2) rvs)
theorem sd_tup {es : List Expr} {c : CEs} {k : Nat} (h : SdA p es c) : SdE p (.Tuple es k pos) (.tup c) := fun X C g =>
  (pe_tupN (h X C g)).pq fun σ H Q ⟨μ, ρ, S, he, hs, h⟩ => by
    unfold evE at h
    refine ⟨μ, ρ, S, he, hs, h.bind.imp fun ds S1 μ1 H1 _ e1 s1 h1 vs rvs => ?_⟩
    obtain ⟨z, h1⟩ := h1.ask
    refine ⟨by rw [← rvs.length]; exact z, fun q o hq c1 c2 => ?_⟩
    exact h1 μ1 _ (s1.fresh hq _) (s1.freshOk hq _) (.ref q) ⟨q, vs, rfl, .new c1 c2, rvs.mono (s1.fresh hq _), z⟩
theorem sq_disp {es : List Expr} {c : CEs} (h : SdA p es c) : SdQ p (.List es pos) (.disp c) := fun X C g =>
  (pe_lst (h X C g)).pq fun σ H Q ⟨μ, ρ, S, he, hs, h⟩ => by
    unfold evQ at h
    refine ⟨μ, ρ, S, he, hs, h.bind.imp fun ds S1 μ1 H1 _ e1 s1 h1 vs rvs => ?_⟩
    obtain ⟨z, h1⟩ := h1.ask
    refine ⟨by rw [← rvs.length]; exact z, fun q hq => ?_⟩
    refine h1 μ1 _ (s1.fresh hq _) (s1.freshOk hq _) q vs (e1.alive _ hq) upd_same (fun m => ?_) (rvs.mono (s1.fresh hq _)) z
    obtain ⟨u, e, _⟩ := s1.mem m
    rw [hq] at e; cases e
/-- a new list goes into the store -/
theorem sd_alloc {q : CQ} (h : SdQ p e q) : SdE p e (.alloc q) := fun X C g => (h X C g).pq fun σ H Q ⟨μ, ρ, S, he, hs, h⟩ => by
  unfold evE at h
  refine ⟨μ, ρ, S, he, hs, ?_⟩
  generalize evQ C q ρ S = r at h
  cases r with
  | ok ds S1 =>
    intro μ1 H1 e1 s1 a vs hn ha hm rvs hz
    refine h (μ1 ++ [a]) H1 (e1.take hn) (s1.take hm ha rvs hz) (.ref a) ⟨a, rfl, ?_⟩
    rw [← s1.len, List.getElem?_append_right (Nat.le_refl _), Nat.sub_self]
    rfl
  | exc c fs S' => exact h
  | bad => exact h
theorem sr_q {q : CQ} (h : SdQ p e q) : SdR p e (.q q) := fun X C g => (h X C g).pq fun σ H Q ⟨μ, ρ, S, he, hs, h⟩ => by
  unfold evR at h
  exact ⟨μ, ρ, S, he, hs, h.bind.imp fun ds S1 μ1 H1 _ e1 s1 h1 a vs hn ha hm rvs hz => h1.at s1 (.ref a) ⟨a, vs, rfl, ha, hm, rvs, hz⟩⟩
theorem sr_e (h : SdE p e ca) : SdR p e (.e ca) := fun X C g => (h X C g).pq fun σ H Q ⟨μ, ρ, S, he, hs, h⟩ => by
  unfold evR at h
  exact ⟨μ, ρ, S, he, hs, h.bind.imp fun d S1 μ1 H1 _ e1 s1 h1 v rv => h1.at s1 v rv⟩

/-! ### operators -/
/-- an operator of two values, by what it says of data -/
def OpS (g : D → D → Sto → Res D) (r : Fg → R2) : Prop := ∀ (K : Fg) (μ : List Addr) (H : Hp) (S : Sto) (x y : D) (v u : V) (Q : VK), StOk K μ H S → Rp K μ H x v → Rp K μ H y u → Po K μ H (g x y S) (fun d _ μ' H' => ∀ v, Rp K μ' H' d v → Q v H') → r K v u H Q
theorem tOp_imp {g : D → D → Sto → Res D} {r : Fg → R2} (hg : OpS g r) {K : Fg} {fa fb : En → Sto → Res D} {σ : Slots} {H : Hp} {Q : VK}
    (h : tE K (fun ρ S => (fa ρ S).bind fun x S1 => (fb ρ S1).bind fun y S2 => g x y S2) σ H Q) : tOp (r K) (tE K fa) (tE K fb) σ H Q := by
  obtain ⟨μ, ρ, S, he, hs, h⟩ := h
  refine ⟨μ, ρ, S, he, hs, h.bind.imp fun x S1 μ1 H1 _ e1 s1 h1 v rv => ?_⟩
  refine ⟨μ1, ρ, S1, he.mono e1, s1, h1.bind.imp fun y S2 μ2 H2 _ e2 s2 h2 u ru => ?_⟩
  exact hg K μ2 H2 S2 x y v u Q s2 (rv.mono e2) ru h2
theorem sd_bin {o : Bop} {op : Operator} {r : Fg → R2} (ho : ∀ X C, Good X p C → OpR X (binaryOp op) (r (fgX X))) (hg : OpS (binD o) r) (ha : SdE p a ca) (hb : SdE p b cb) : SdE p (.BinOp a op b pos) (.bin o ca cb) := fun X C g =>
  (pe_op (ho X C g) (ha X C g) (hb X C g)).pq fun σ H Q h => tOp_imp hg (by
    obtain ⟨μ, ρ, S, he, hs, h⟩ := h
    unfold evE at h
    exact ⟨μ, ρ, S, he, hs, h⟩)
theorem sd_cmp {o : Cop} {op : CmpOp} {r : Fg → R2} (ho : ∀ X C, Good X p C → OpR X (compareOp op) (r (fgX X))) (hg : OpS (cmpD o) r) (h1 : op ≠ .In) (h2 : op ≠ .NotIn) (ha : SdE p a ca) (hb : SdE p b cb) : SdE p (.Compare a [op] [b] pos) (.cmp o ca cb) := fun X C g =>
  (pe_cmpR (ho X C g) (ha X C g) (hb X C g) (nomark b h1 h2)).pq fun σ H Q h => tOp_imp hg (by
    obtain ⟨μ, ρ, S, he, hs, h⟩ := h
    unfold evE at h
    exact ⟨μ, ρ, S, he, hs, h⟩)

/-! the operators one by one -/
section
variable {K : Fg} {μ : List Addr} {H : Hp} {S : Sto} {x y d : D} {v u : V} {Q : VK}
theorem rp_tup {ds : List D} {p : Addr} {o : Obj} {vs : List V} (hs : StOk K μ H S) (hz : ds.length ≤ sizeLine) (r : RpA K μ H ds vs) (hp : H p = none) (c1 : o.cls = .type "tuple") (c2 : o.dict = none) : Rp K μ (upd H p (.frz o (.tup vs))) (.tup ds) (.ref p) :=
  ⟨p, vs, rfl, .new c1 c2, r.mono (hs.fresh hp _), hz⟩
/-- a new list at p that the store takes up -/
theorem take_new {ds : List D} {p : Addr} {vs : List V} (hs : StOk K μ H S) (hz : ds.length ≤ sizeLine) (r : RpA K μ H ds vs) (hp : H p = none) :
    Ext K μ H (μ ++ [p]) (upd H p (.lst vs)) ∧ StOk K (μ ++ [p]) (upd H p (.lst vs)) (S ++ [.lst ds]) ∧ Rp K (μ ++ [p]) (upd H p (.lst vs)) (.ref S.length) (.ref p) := by
  refine ⟨(hs.fresh hp _).take hp, (hs.freshOk hp _).take (fun m => ?_) upd_same (r.mono (hs.fresh hp _)) hz, p, rfl, ?_⟩
  · obtain ⟨w, e, _⟩ := hs.mem m
    rw [hp] at e; cases e
  · rw [← hs.len, List.getElem?_append_right (Nat.le_refl _), Nat.sub_self]
    rfl
theorem rp_ref {i : Nat} (r : Rp K μ H (.ref i) v) (hs : StOk K μ H S) {ds : List D} (e : S[i]? = some (.lst ds)) : ∃ a vs, v = .ref a ∧ μ[i]? = some a ∧ H a = some (.lst vs) ∧ RpA K μ H ds vs ∧ ds.length ≤ sizeLine := by
  obtain ⟨a, rfl, ea⟩ := r
  obtain ⟨vs, h1, h2, h3⟩ := hs.lst e ea
  exact ⟨a, vs, rfl, ea, h1, h2, h3⟩
end
end
end PQ

/-! The operators, subscripts, built-ins. -/
namespace PQ
open PySem PySem.Spec PyProof.Rows L2
section
variable {p : Pl} {a b c e : Expr} {ca cb cc : CE} {pos : Pos}
/-! ### arithmetic -/
theorem os_int {o : Bop} {g : Int → Int → Int} {C : Int → Int → Prop} (h1 : ∀ i j S, binD o (.int i) (.int j) S = ask (C i j) (.ok (.int (g i j)) S)) (h2 : ∀ x y S, (∀ i j, ¬ (x = .int i ∧ y = .int j)) → binD o x y S = .bad) : OpS (binD o) fun _ => rI C fun i j => .int (g i j) := by
  intro K μ H S x y v u Q hs rx ry h
  by_cases hc : ∃ i j, x = .int i ∧ y = .int j
  · obtain ⟨i, j, rfl, rfl⟩ := hc
    rw [h1] at h
    obtain ⟨hc, h⟩ := h.ask
    exact ⟨i, j, rx, ry, hc, h.at hs _ rfl⟩
  · rw [h2 x y S (fun i j z => hc ⟨i, j, z⟩)] at h
    exact h.elim
theorem os_int0 {o : Bop} {g : Int → Int → Int} (h1 : ∀ i j S, binD o (.int i) (.int j) S = .ok (.int (g i j)) S) (h2 : ∀ x y S, (∀ i j, ¬ (x = .int i ∧ y = .int j)) → binD o x y S = .bad) : OpS (binD o) fun _ => rI0 fun i j => .int (g i j) := by
  intro K μ H S x y v u Q hs rx ry h
  by_cases hc : ∃ i j, x = .int i ∧ y = .int j
  · obtain ⟨i, j, rfl, rfl⟩ := hc
    rw [h1] at h
    exact ⟨i, j, rx, ry, h.at hs _ rfl⟩
  · rw [h2 x y S (fun i j z => hc ⟨i, j, z⟩)] at h
    exact h.elim
/-- the other cases of an operator of ints -/
theorem bin_else (o : Bop) (ho : (match o with | .add => false | .mul => false | _ => true) = true) (x y : D) (S : Sto) (h : ∀ i j, ¬ (x = .int i ∧ y = .int j)) : binD o x y S = .bad := by
  cases o <;> first | (cases ho; done) | (cases x <;> cases y <;> first | rfl | exact absurd ⟨rfl, rfl⟩ (h _ _))
def rAddB : R2 := fun x y H Q => ∃ i b, x = .int i ∧ y = .bl b ∧ Q (.int (i + if b = true then 1 else 0)) H
theorem op_addB {X : Cx} : OpR X (binaryOp .Add) rAddB := by
  intro pins s σ H x y v u Q I rx ry q
  obtain ⟨i, b, rfl, rfl, q⟩ := q
  obtain ⟨t, rfl⟩ := rx
  cases ry
  exact add_int_bool ⟨.int _, H, I.tok _, ⟨_, rfl⟩, q⟩
def rMulS : R2 := fun x y H Q => ∃ a k, x = .str a ∧ y = .int k ∧ MulOk a k ∧ Q (.str (Txt.mul a k)) H
theorem op_mulS {X : Cx} : OpR X (binaryOp .Mult) rMulS := by
  intro pins s σ H x y v u Q I rx ry q
  obtain ⟨a, k, rfl, rfl, hk, q⟩ := q
  obtain ⟨t, rfl⟩ := rx
  obtain ⟨t', rfl⟩ := ry
  exact SB.mul hk fun t2 k2 => ⟨.str _, H, I.tok _, ⟨_, rfl⟩, q⟩
def rAdd4 (K : Fg) : R2 := fun x y H Q => rI0 (fun i j => .int (i + j)) x y H Q ∨ ((∃ i j, x = .str i ∧ y = .str j ∧ i.length + j.length ≤ sizeLine ∧ Q (.str (i ++ j)) H) ∨ (rCatN K x y H Q ∨ (rCat x y H Q ∨ rAddB x y H Q)))
theorem os_add : OpS (binD .add) rAdd4 := by
  intro K μ H S x y v u Q hs rx ry h
  cases x with
  | int i =>
    cases y with
    | int j => exact .inl ⟨i, j, rx, ry, h.at hs _ rfl⟩
    | bl b => exact .inr (.inr (.inr (.inr ⟨i, b, rx, ry, h.at hs _ rfl⟩)))
    | _ => exact (show False from h).elim
  | str i =>
    cases y with
    | str j =>
      obtain ⟨z, h⟩ := Po.ask h
      exact .inr (.inl ⟨i, j, rx, ry, z, h.at hs _ rfl⟩)
    | _ => exact (show False from h).elim
  | tup ds =>
    cases y with
    | tup es =>
      obtain ⟨z, h⟩ := Po.ask h
      obtain ⟨q1, vs, rfl, ha, ra, za⟩ := rx
      obtain ⟨q2, us, rfl, hb, rb, zb⟩ := ry
      refine .inr (.inr (.inl ⟨q1, q2, vs, us, rfl, rfl, ha.sq, hb.sq, by rw [← ra.length, ← rb.length]; exact z, fun e => ?_, fun _ e => ?_, fun _ _ p o hp c1 c2 => ?_⟩))
      · refine h.at hs _ ?_
        have : ds = [] := List.eq_nil_of_length_eq_zero (by rw [ra.length, e]; rfl)
        subst this
        exact ⟨q2, us, rfl, hb, rb, zb⟩
      · refine h.at hs _ ?_
        have : es = [] := List.eq_nil_of_length_eq_zero (by rw [rb.length, e]; rfl)
        subst this
        rw [List.append_nil]
        exact ⟨q1, vs, rfl, ha, ra, za⟩
      · exact h μ _ (hs.fresh hp _) (hs.freshOk hp _) _ (rp_tup hs (by rw [List.length_append]; exact z) (ra.append rb) hp c1 c2)
    | _ => exact (show False from h).elim
  | ref i =>
    cases y with
    | ref j =>
      have h : Po K μ H (match S[i]?, S[j]? with
        | some (.lst a), some (.lst b) => ask (a.length + b.length ≤ sizeLine) (Res.ok (D.ref S.length) (S ++ [Ob.lst (a ++ b)]))
        | _, _ => Res.bad) _ := h
      cases ei : S[i]? with
      | none => rw [ei] at h; exact (show False from h).elim
      | some o =>
        cases ej : S[j]? with
        | none => rw [ei, ej] at h; cases o <;> exact (show False from h).elim
        | some o' =>
          rw [ei, ej] at h
          cases o with
          | dic ks => first | (cases h; done) | exact (show False from h).elim
          | frd ks => first | (cases h; done) | exact (show False from h).elim
          | dkt ks => first | (cases h; done) | exact (show False from h).elim
          | lst ds =>
            cases o' with
            | dic ks => first | (cases h; done) | exact (show False from h).elim
            | frd ks => first | (cases h; done) | exact (show False from h).elim
            | dkt ks => first | (cases h; done) | exact (show False from h).elim
            | lst es =>
              obtain ⟨z, h⟩ := Po.ask h
              obtain ⟨q1, vs, rfl, _, ha, ra, _⟩ := rp_ref rx hs ei
              obtain ⟨q2, us, rfl, _, hb, rb, _⟩ := rp_ref ry hs ej
              refine .inr (.inr (.inr (.inl ⟨q1, q2, vs, us, rfl, rfl, ha, hb, by rw [← ra.length, ← rb.length]; exact z, fun p hp => ?_⟩)))
              obtain ⟨e1, s1, r1⟩ := take_new hs (by rw [List.length_append]; exact z) (ra.append rb) hp
              exact h _ _ e1 s1 _ r1
    | _ => exact (show False from h).elim
  | _ => exact (show False from h).elim
theorem sd_add (ha : SdE p a ca) (hb : SdE p b cb) : SdE p (.BinOp a .Add b pos) (.bin .add ca cb) := sd_bin (fun X C g => op_add.or (op_add_str.or (op_catN.or (op_cat.or op_addB)))) os_add ha hb
theorem sd_sub (ha : SdE p a ca) (hb : SdE p b cb) : SdE p (.BinOp a .Sub b pos) (.bin .sub ca cb) := sd_bin (fun X C g => op_sub) (os_int0 (fun _ _ _ => rfl) (bin_else .sub rfl)) ha hb
theorem opI' {X : Cx} {f : Value → Value → Sem Value} {C : Int → Int → Prop} {g : Int → Int → Int} (h : ∀ i j t u (Q : Value → Shared → Prop) s, C i j → (∀ t', Q (.int (g i j) t') { s with toks := s.toks + 1 }) → wpAny (model X.prog X.w) X.A (f (.int i t) (.int j u)) Q X.xe s) : OpR X f (rI C fun i j => .int (g i j)) := by
  intro pins s σ H x y v u Q I rx ry q
  obtain ⟨i, j, rfl, rfl, hc, q⟩ := q
  obtain ⟨t, rfl⟩ := rx
  obtain ⟨t', rfl⟩ := ry
  exact h i j t t' _ s hc fun t2 => ⟨.int _, H, I.tok _, ⟨_, rfl⟩, q⟩
def rMul2 (K : Fg) : R2 := fun x y H Q => rI IntMulOk (fun i j => .int (i * j)) x y H Q ∨ (rRep x y H Q ∨ (rMulS x y H Q ∨ rRepN K x y H Q))
theorem os_mul : OpS (binD .mul) rMul2 := by
  intro K μ H S x y v u Q hs rx ry h
  cases x with
  | int i =>
    cases y with
    | int j =>
      obtain ⟨z, h⟩ := Po.ask h
      exact .inl ⟨i, j, rx, ry, z, h.at hs _ rfl⟩
    | _ => exact (show False from h).elim
  | ref i =>
    cases y with
    | int k =>
      have h : Po K μ H (match S[i]? with
        | some (.lst a) => ask (-(2 ^ 63) ≤ k ∧ k < 2 ^ 63 ∧ a.length * k.toNat ≤ sizeLine) (Res.ok (D.ref S.length) (S ++ [Ob.lst (List.replicate k.toNat a).flatten]))
        | _ => Res.bad) _ := h
      cases ei : S[i]? with
      | none => rw [ei] at h; exact (show False from h).elim
      | some o =>
        rw [ei] at h
        cases o with
        | dic ks => first | (cases h; done) | exact (show False from h).elim
        | frd ks => first | (cases h; done) | exact (show False from h).elim
        | dkt ks => first | (cases h; done) | exact (show False from h).elim
        | lst ds =>
          obtain ⟨⟨k1, k2, z⟩, h⟩ := Po.ask h
          obtain ⟨q1, vs, rfl, _, ha, ra, _⟩ := rp_ref rx hs ei
          refine .inr (.inl ⟨q1, k, vs, rfl, ry, ha, k1, k2, by rw [← ra.length]; exact z, fun p hp => ?_⟩)
          have rep : ∀ n : Nat, RpA K μ H (List.replicate n ds).flatten (List.replicate n vs).flatten := fun n => by
            induction n with
            | zero => exact .nil
            | succ n ih =>
              rw [List.replicate_succ, List.replicate_succ, List.flatten_cons, List.flatten_cons]
              exact ra.append ih
          have zl : (List.replicate k.toNat ds).flatten.length ≤ sizeLine := by
            rw [List.length_flatten, List.map_replicate, List.sum_replicate_nat, Nat.mul_comm]
            exact z
          obtain ⟨e1, s1, r1⟩ := take_new hs zl (rep k.toNat) hp
          exact h _ _ e1 s1 _ r1
    | _ => exact (show False from h).elim
  | str a =>
    cases y with
    | int k =>
      obtain ⟨z, h⟩ := Po.ask (show Po K μ H (ask (MulOk a k) (Res.ok (D.str (Txt.mul a k)) S)) _ from h)
      exact .inr (.inr (.inl ⟨a, k, rx, ry, z, h.at hs _ rfl⟩))
    | _ => exact (show False from h).elim
  | tup ds =>
    cases y with
    | int k =>
      obtain ⟨⟨k1, k2, z⟩, h⟩ := Po.ask (show Po K μ H (ask (-(2 ^ 63) ≤ k ∧ k ≤ 1000 ∧ ds.length ≤ 1000) (Res.ok (D.tup (List.replicate k.toNat ds).flatten) S)) _ from h)
      obtain ⟨q1, vs, rfl, ha, ra, za⟩ := rx
      have rep : ∀ n : Nat, RpA K μ H (List.replicate n ds).flatten (List.replicate n vs).flatten := fun n => by
        induction n with
        | zero => exact .nil
        | succ n ih =>
          rw [List.replicate_succ, List.replicate_succ, List.flatten_cons, List.flatten_cons]
          exact ra.append ih
      have zl : (List.replicate k.toNat ds).flatten.length ≤ sizeLine := by
        rw [List.length_flatten, List.map_replicate, List.sum_replicate_nat, sizeLine_eq]
        have : k.toNat * ds.length ≤ 1000 * 1000 := Nat.mul_le_mul (by omega) z
        omega
      refine .inr (.inr (.inr ⟨q1, k, vs, rfl, ry, ha.sq, k1, k2, by rw [← ra.length]; exact z, fun e => h.at hs _ ?_, fun _ _ p o hp c1 c2 => ?_⟩))
      · have e2 : (List.replicate k.toNat ds).flatten = ds := by
          rcases e with e | e
          · have : ds = [] := List.eq_nil_of_length_eq_zero (by rw [ra.length, e]; rfl)
            subst this
            simp
          · subst e
            simp
        rw [e2]
        exact ⟨q1, vs, rfl, ha, ra, za⟩
      · exact h μ _ (hs.fresh hp _) (hs.freshOk hp _) _ (rp_tup hs zl (rep k.toNat) hp c1 c2)
    | _ => exact (show False from h).elim
  | _ => exact (show False from h).elim
theorem sd_mul (ha : SdE p a ca) (hb : SdE p b cb) : SdE p (.BinOp a .Mult b pos) (.bin .mul ca cb) := sd_bin (r := rMul2) (fun X C g => (opI' fun _ _ _ _ _ _ hc q => mul_int (q _) hc).or (op_rep.or (op_mulS.or op_repN))) os_mul ha hb
theorem sd_fdiv (ha : SdE p a ca) (hb : SdE p b cb) : SdE p (.BinOp a .FloorDiv b pos) (.bin .fdiv ca cb) :=
  sd_bin (r := fun _ => rI FDivOk fun i j => .int (i.fdiv j)) (fun X C g => opI' fun _ _ _ _ _ _ hc q => floordiv_int hc.1 (q _) (.inl hc.2)) (os_int (fun _ _ _ => rfl) (bin_else .fdiv rfl)) ha hb
theorem sd_mod (ha : SdE p a ca) (hb : SdE p b cb) : SdE p (.BinOp a .Mod b pos) (.bin .mod ca cb) :=
  sd_bin (r := fun _ => rI (fun _ j => j ≠ 0) fun i j => .int (i.fmod j)) (fun X C g => op_modN) (os_int (C := fun _ j => j ≠ 0) (fun _ _ _ => rfl) (bin_else .mod rfl)) ha hb
theorem sd_pow (ha : SdE p a ca) (hb : SdE p b cb) : SdE p (.BinOp a .Pow b pos) (.bin .pow ca cb) :=
  sd_bin (r := fun _ => rI CPow fun i j => .int (i ^ j.toNat)) (fun X C g => op_pow) (os_int (C := CPow) (fun _ _ _ => rfl) (bin_else .pow rfl)) ha hb
theorem sd_shl (ha : SdE p a ca) (hb : SdE p b cb) : SdE p (.BinOp a .LShift b pos) (.bin .shl ca cb) :=
  sd_bin (r := fun _ => rI CPow fun i j => .int (i * 2 ^ j.toNat)) (fun X C g => op_shl) (os_int (C := CPow) (fun _ _ _ => rfl) (bin_else .shl rfl)) ha hb
theorem sd_shr (ha : SdE p a ca) (hb : SdE p b cb) : SdE p (.BinOp a .RShift b pos) (.bin .shr ca cb) :=
  sd_bin (r := fun _ => rI (fun _ j => 0 ≤ j) fun i j => .int (i / 2 ^ j.toNat)) (fun X C g => op_shr) (os_int (C := fun _ j => 0 ≤ j) (fun _ _ _ => rfl) (bin_else .shr rfl)) ha hb
theorem sd_band (ha : SdE p a ca) (hb : SdE p b cb) : SdE p (.BinOp a .BitAnd b pos) (.bin .band ca cb) := sd_bin (fun X C g => op_and) (os_int0 (fun _ _ _ => rfl) (bin_else .band rfl)) ha hb
theorem sd_bor (ha : SdE p a ca) (hb : SdE p b cb) : SdE p (.BinOp a .BitOr b pos) (.bin .bor ca cb) := sd_bin (fun X C g => op_or) (os_int0 (fun _ _ _ => rfl) (bin_else .bor rfl)) ha hb
theorem sd_bxor (ha : SdE p a ca) (hb : SdE p b cb) : SdE p (.BinOp a .BitXor b pos) (.bin .bxor ca cb) := sd_bin (fun X C g => op_xor) (os_int0 (fun _ _ _ => rfl) (bin_else .bxor rfl)) ha hb
theorem sd_neg (ha : SdE p a ca) : SdE p (.UnaryOp .USub a pos) (.neg ca) := fun X C g => (pe_un un_neg (ha X C g)).pq fun σ H Q ⟨μ, ρ, S, he, hs, h⟩ => by
  unfold evE at h
  refine ⟨μ, ρ, S, he, hs, h.bind.imp fun x S1 μ1 H1 _ e1 s1 h1 v rv => ?_⟩
  cases x with
  | int i => exact ⟨i, rv, h1.at s1 _ rfl⟩
  | _ => exact (show False from h1).elim

/-! ### comparisons -/
section
variable {K : Fg} {μ : List Addr} {H : Hp} {S : Sto}
theorem refP_dp (hs : StOk K μ H S) : ∀ (n i : Nat) (a : Addr) (q : PyData), μ[i]? = some a → refP S n i = some q → Dp K H (.ref a) q
  | 0, _, _, _, _, h => by cases h
  | n + 1, i, a, q, ea, h => by
    have h : (match S[i]? with
      | some (Ob.lst ds) => (toPsW (refP S n) ds).map PyData.list
      | _ => none) = some q := h
    cases ei : S[i]? with
    | none => rw [ei] at h; cases h
    | some o =>
      rw [ei] at h
      cases o with
      | dic ks => first | (cases h; done) | exact (show False from h).elim
      | frd ks => first | (cases h; done) | exact (show False from h).elim
      | dkt ks => first | (cases h; done) | exact (show False from h).elim
      | lst ds =>
        obtain ⟨vs, h1, h2, _⟩ := hs.lst ei ea
        cases e : toPsW (refP S n) ds with
        | none => have h : (toPsW (refP S n) ds).map PyData.list = some q := h; rw [e] at h; cases h
        | some qs =>
          have h : (toPsW (refP S n) ds).map PyData.list = some q := h
          rw [e] at h
          cases h
          exact .lst (.of h1) (go hs n ds vs qs h2 e)
where
  go (hs : StOk K μ H S) (n : Nat) : ∀ (ds : List D) (vs : List V) (qs : List PyData), RpA K μ H ds vs → toPsW (refP S n) ds = some qs → DpAll K H vs qs
    | [], _, _, r, h => by
      cases h
      rw [show _ = ([] : List V) from r]
      exact .nil
    | d :: ds, _, qs, ⟨v, r, h1, h2, h3⟩, h => by
      have h : (match toPW (refP S n) d, toPsW (refP S n) ds with
        | some p, some ps => some (p :: ps)
        | _, _ => none) = some qs := h
      cases e1 : toPW (refP S n) d with
      | none => rw [e1] at h; cases h
      | some q1 =>
        cases e2 : toPsW (refP S n) ds with
        | none => rw [e1, e2] at h; cases h
        | some q2 =>
          rw [e1, e2] at h
          cases h
          rw [h1]
          exact .cons (one hs n d v q1 h2 e1) (go hs n ds r q2 h3 e2)
  one (hs : StOk K μ H S) (n : Nat) : ∀ (d : D) (v : V) (q : PyData), Rp K μ H d v → toPW (refP S n) d = some q → Dp K H v q
    | .non, _, _, r, h => by cases h; rw [show _ = V.non from r]; exact .non
    | .bl b, _, _, r, h => by cases h; rw [show _ = V.bl b from r]; exact .bl b
    | .int i, _, _, r, h => by cases h; rw [show _ = V.int i from r]; exact .int i
    | .str x, _, _, r, h => by cases h; rw [show _ = V.str x from r]; exact .str x
    | .tup ds, _, q, ⟨a, vs, e, h1, h2, _⟩, h => by
      have h : (toPsW (refP S n) ds).map PyData.tuple = some q := h
      cases e1 : toPsW (refP S n) ds with
      | none => rw [e1] at h; cases h
      | some qs =>
        rw [e1] at h
        cases h
        rw [e]
        exact .tup h1.sq (go hs n ds vs qs h2 e1)
    | .fix ds, _, q, ⟨a, vs, e, h1, h2, _⟩, h => by
      have h : (toPsW (refP S n) ds).map PyData.list = some q := h
      cases e1 : toPsW (refP S n) ds with
      | none => rw [e1] at h; cases h
      | some qs =>
        rw [e1] at h
        cases h
        rw [e]
        exact .lst h1.sq (go hs n ds vs qs h2 e1)
    | .ref i, _, q, ⟨a, e, ea⟩, h => by
      rw [e]
      exact refP_dp hs n i a q ea h
theorem toP_dp (hs : StOk K μ H S) {d : D} {v : V} {q : PyData} (r : Rp K μ H d v) (h : toP S d = some q) : Dp K H v q := refP_dp.one hs 8 d v q r h
theorem toPs_dp (hs : StOk K μ H S) {ds : List D} {vs : List V} {qs : List PyData} (r : RpA K μ H ds vs) (h : toPs S ds = some qs) : DpAll K H vs qs := refP_dp.go hs 8 ds vs qs r h
end
section
variable {K : Fg} {μ : List Addr} {H : Hp} {S : Sto} {x y : D} {v u : V}
theorem scal_rp (rx : Rp K μ H x v) (ry : Rp K μ H y u) (h : scalD x y = true) : scal v u = true ∧ decide (v = u) = eqSc x y := by
  cases x <;> cases y <;> first
    | (cases h; done)
    | (cases rx; cases ry; refine ⟨rfl, ?_⟩; simp [eqSc])
/-- == and != of data -/
def rEq2 (K : Fg) (neg : Bool) : R2 := fun x y H Q => (scal x y = true ∧ Q (.bl (if neg then !decide (x = y) else decide (x = y))) H) ∨ ∃ d e, Dp K H x d ∧ Dp K H y e ∧ shp d = true ∧ shp e = true ∧ Q (.bl (if neg then !PyData.eqv d e else PyData.eqv d e)) H
theorem dEq_ok (hs : StOk K μ H S) {Q : VK} {b : Bool} (neg : Bool) (rx : Rp K μ H x v) (ry : Rp K μ H y u) (h : dEq S x y = some b) (q : Q (.bl (if neg then !b else b)) H) : rEq2 K neg v u H Q := by
  unfold dEq at h
  split at h
  · rename_i hc
    obtain ⟨h1, h2⟩ := scal_rp rx ry hc
    cases h
    exact .inl ⟨h1, by rw [h2]; exact q⟩
  · split at h
    · rename_i p1 p2 e1 e2
      split at h
      · rename_i hsh
        cases h
        rw [Bool.and_eq_true] at hsh
        exact .inr ⟨p1, p2, toP_dp hs rx e1, toP_dp hs ry e2, hsh.1, hsh.2, q⟩
      · cases h
    · cases h
end
theorem os_cmpI {o : Cop} {g : Int → Int → Bool} {b : PyData → PyData → Bool} (h1 : ∀ i j S, cmpD o (.int i) (.int j) S = .ok (.bl (g i j)) S) (h2 : ∀ x y S, (∀ i j, ¬ (x = .int i ∧ y = .int j)) → cmpD o x y S = ordD o x y S) (hb : ∀ p q, ordP o p q = b p q) : OpS (cmpD o) fun K x y H Q => rI0 (fun i j => .bl (g i j)) x y H Q ∨ rOrd b K x y H Q := by
  intro K μ H S x y v u Q hs rx ry h
  by_cases hc : ∃ i j, x = .int i ∧ y = .int j
  · obtain ⟨i, j, rfl, rfl⟩ := hc
    rw [h1] at h
    exact .inl ⟨i, j, rx, ry, h.at hs _ rfl⟩
  · rw [h2 x y S (fun i j z => hc ⟨i, j, z⟩)] at h
    unfold ordD at h
    cases e1 : toP S x with
    | none => rw [e1] at h; exact h.elim
    | some p =>
      cases e2 : toP S y with
      | none => rw [e1, e2] at h; exact h.elim
      | some q =>
        rw [e1, e2] at h
        obtain ⟨hz, h⟩ := Po.ite (show Po K μ H (if cmpOk p q = true then Res.ok (D.bl (ordP o p q)) S else Res.bad) _ from h)
        exact .inr ⟨p, q, toP_dp hs rx e1, toP_dp hs ry e2, hz, by
          rw [← hb]
          exact h.at hs _ rfl⟩
theorem cmp_else (o : Cop) (ho : (match o with | .eq => false | .ne => false | _ => true) = true) (x y : D) (S : Sto) (h : ∀ i j, ¬ (x = .int i ∧ y = .int j)) : cmpD o x y S = ordD o x y S := by
  cases o <;> first | (cases ho; done) | (cases x <;> first | rfl | (cases y <;> first | rfl | exact absurd ⟨rfl, rfl⟩ (h _ _)))
/-- is None -/
theorem isN_rp {K : Fg} {μ : List Addr} {H : Hp} {x : D} {v : V} (r : Rp K μ H x v) : decide (v = V.non) = isNon x := by
  cases x with
  | tup ds => obtain ⟨a, vs, rfl, _⟩ := r; rfl
  | fix ds => obtain ⟨a, vs, rfl, _⟩ := r; rfl
  | ref i => obtain ⟨a, rfl, _⟩ := r; rfl
  | _ => cases r; rfl
end
end PQ

/-! Tests, subscripts, calls, built-ins. -/
namespace PQ
open PySem PySem.Spec PyProof.Rows L2

/-! ### conditions on the text -/
def notStar : Expr → Bool
  | .Starred .. => false
  | _ => true
theorem star_cons {e : Expr} (h : notStar e = true) (es : List Expr) (env : Env) : starEach (e :: es) env = (false, eval e env) :: starEach es env := by
  cases e <;> first | rfl | (cases h; done)
theorem star_any : ∀ {es : List Expr} (pos : Pos) (env : Env), es.all notStar = true → (backTo pos (starEach es env)).any (·.1) = false
  | [], _, _, _ => rfl
  | e :: es, pos, env, h => by
    rw [List.all_cons, Bool.and_eq_true] at h
    rw [star_cons h.1]
    show (false || (backTo pos (starEach es env)).any (·.1)) = false
    rw [star_any pos env h.2]
    rfl
def plainTest : Expr → Bool
  | .UnaryOp .Not _ _ => false
  | .BoolOp .. => false
  | .IfExp .. => false
  | .Compare .. => false
  | _ => true
theorem plain_true {e : Expr} (h : plainTest e = true) (env : Env) (w : Sem Value) : isTrue e env w = (do let v ← w; standAt e.pos; holding [v] (truthy v)) := by
  cases e with
  | UnaryOp o a p => cases o <;> first | rfl | (cases h; done)
  | _ => first | rfl | (cases h; done)
def notSlice : Expr → Bool
  | .Slice .. => false
  | _ => true
theorem plain_ix {e : Expr} (h : notSlice e = true) : PlainIx e := by
  intro o i
  cases e <;> first | rfl | (cases h; done)
theorem aug_store {i : Expr} (h : notSlice i = true) (ov iv new : Value) : augStore i ov iv new = (do holding [new, ov, iv] (setItem ov iv new); release [new, ov, iv] []; pure .next) := by
  cases i <;> first | rfl | (cases h; done)
theorem sub_store {o i : Expr} {pos : Pos} (h : notSlice i = true) (env : Env) (v : Value) : assign (.Subscript o i pos) env v = (do
      let ov ← holding [v] (eval o env)
      let iv ← holding [v, ov] (eval i env)
      standAt pos
      holding [v, ov, iv] (setItem ov iv v)
      release [v, ov, iv] []) := by
  cases i <;> first | rfl | (cases h; done)
def notComp : Expr → Bool
  | .ListComp .. => false
  | .SetComp .. => false
  | .DictComp .. => false
  | _ => true
theorem no_swap {e : Expr} (h : notComp e = true) (t : Option Expr) (l : Nat) (env : Env) : swapsWith e t l env = pure false := by
  cases e <;> first | rfl | (cases h; done)
def notSet : Expr → Bool
  | .Set .. => false
  | _ => true
theorem no_fold {e : Expr} (h : notSet e = true) (env : Env) (x : Value) : foldedSetIterable e env x = pure x := by
  cases e <;> first | rfl | (cases h; done)
def notCall : Expr → Bool
  | .Call _ (_ :: _) _ _ => true
  | .Call .. => false
  | _ => true
theorem plain_base {e : Expr} (h : notCall e = true) (n : Str) (env : Env) (w : Sem Value) : attributeBase e n env w = w := by
  cases e with
  | Call f as ks ps =>
    cases as with
    | nil => cases h
    | cons a r => cases f <;> rfl
  | _ => rfl

section
variable {p : Pl} {a b c e : Expr} {ca cb cc : CE} {pos : Pos} {ta tb : CT}
/-! ### truth -/
theorem tru_rp {K : Fg} {μ : List Addr} {H : Hp} {S : Sto} (hs : StOk K μ H S) {x : D} {v : V} {k : Bool} (r : Rp K μ H x v) (h : tru S x = some k) : TruV K v H k := by
  have emp : ∀ {ds : List D} {vs : List V}, RpA K μ H ds vs → (!ds.isEmpty) = !vs.isEmpty := fun {ds vs} r => by
    have := r.length
    cases ds <;> cases vs <;> first | rfl | (simp at this)
  cases x with
  | non => cases r; cases h; rfl
  | bl b => cases r; cases h; rfl
  | int i => cases r; cases h; rfl
  | str x =>
    cases r
    have h : (if x.length ≤ sizeLine then some (x.length != 0) else none) = some k := h
    split at h
    · cases h
      refine ⟨by assumption, ?_⟩
      rw [Bool.eq_iff_iff]
      simp only [bne_iff_ne, ne_eq]
      omega
    · cases h
  | tup ds =>
    obtain ⟨a, vs, rfl, h1, h2, _⟩ := r
    cases h
    exact .inr (.inl ⟨vs, h1.sq, emp h2⟩)
  | fix ds =>
    obtain ⟨a, vs, rfl, h1, h2, _⟩ := r
    cases h
    exact .inl ⟨vs, h1.sq, emp h2⟩
  | ref i =>
    have h : (match S[i]? with
      | some (Ob.lst ds) => some (!ds.isEmpty)
      | _ => none) = some k := h
    cases ei : S[i]? with
    | none => rw [ei] at h; cases h
    | some o =>
      rw [ei] at h
      cases o with
      | dic ks => first | (cases h; done) | exact (show False from h).elim
      | frd ks => first | (cases h; done) | exact (show False from h).elim
      | dkt ks => first | (cases h; done) | exact (show False from h).elim
      | lst ds =>
        obtain ⟨a, vs, rfl, _, h1, h2, _⟩ := rp_ref r hs ei
        cases h
        exact .inl ⟨vs, .of h1, emp h2⟩
theorem sd_and {rest : List Expr} (ha : SdE p a ca) (hb : SdE p (.BoolOp .And (b :: rest) pos) cb) : SdE p (.BoolOp .And (a :: b :: rest) pos) (.and ca cb) := fun X C g => (pe_andT (ha X C g) (hb X C g)).pq fun σ H Q ⟨μ, ρ, S, he, hs, h⟩ => by
  unfold evE at h
  refine ⟨μ, ρ, S, he, hs, h.bind.imp fun x S1 μ1 H1 _ e1 s1 h1 v rv => ?_⟩
  obtain ⟨k, ek, h1⟩ := h1.may
  refine ⟨k, tru_rp s1 rv ek, ?_⟩
  cases k with
  | true => rw [if_pos rfl] at h1 ⊢; exact ⟨μ1, ρ, S1, he.mono e1, s1, h1⟩
  | false => rw [if_neg Bool.false_ne_true] at h1 ⊢; exact h1.at s1 v rv
theorem sd_or {rest : List Expr} (ha : SdE p a ca) (hb : SdE p (.BoolOp .Or (b :: rest) pos) cb) : SdE p (.BoolOp .Or (a :: b :: rest) pos) (.or ca cb) := fun X C g => (pe_orT (ha X C g) (hb X C g)).pq fun σ H Q ⟨μ, ρ, S, he, hs, h⟩ => by
  unfold evE at h
  refine ⟨μ, ρ, S, he, hs, h.bind.imp fun x S1 μ1 H1 _ e1 s1 h1 v rv => ?_⟩
  obtain ⟨k, ek, h1⟩ := h1.may
  refine ⟨k, tru_rp s1 rv ek, ?_⟩
  cases k with
  | true => rw [if_pos rfl] at h1 ⊢; exact h1.at s1 v rv
  | false => rw [if_neg Bool.false_ne_true] at h1 ⊢; exact ⟨μ1, ρ, S1, he.mono e1, s1, h1⟩
theorem sd_one {op} (ha : SdE p a ca) : SdE p (.BoolOp op [a] pos) ca := fun X C g => pe_one (ha X C g)
theorem sd_not (ha : SdE p a ca) : SdE p (.UnaryOp .Not a pos) (.not ca) := fun X C g => (pe_notT (ha X C g)).pq fun σ H Q ⟨μ, ρ, S, he, hs, h⟩ => by
  unfold evE at h
  refine ⟨μ, ρ, S, he, hs, h.bind.imp fun x S1 μ1 H1 _ e1 s1 h1 v rv => ?_⟩
  obtain ⟨k, ek, h1⟩ := h1.may
  exact ⟨k, tru_rp s1 rv ek, h1.at s1 _ rfl⟩
theorem sd_ife (ht : SdT p c ta) (ha : SdE p a ca) (hb : SdE p b cb) : SdE p (.IfExp c a b pos) (.ife ta ca cb) := fun X C g => (pe_ifExp (ht X C g) (ha X C g) (hb X C g)).pq fun σ H Q ⟨μ, ρ, S, he, hs, h⟩ => by
  unfold evE at h
  refine ⟨μ, ρ, S, he, hs, h.bind.imp fun k S1 μ1 H1 _ e1 s1 h1 => ?_⟩
  cases k with
  | true => rw [if_pos rfl] at h1 ⊢; exact ⟨μ1, ρ, S1, he.mono e1, s1, h1⟩
  | false => rw [if_neg Bool.false_ne_true] at h1 ⊢; exact ⟨μ1, ρ, S1, he.mono e1, s1, h1⟩

/-! ### tests -/
theorem st_plain (h : plainTest e = true) (ha : SdE p e ca) : SdT p e (.v ca) := fun X C g => (pt_truth (ha X C g) (fun w => plain_true h _ w)).pq fun σ H Q ⟨μ, ρ, S, he, hs, h⟩ => by
  unfold evT at h
  refine ⟨μ, ρ, S, he, hs, h.bind.imp fun x S1 μ1 H1 _ e1 s1 h1 v rv => ?_⟩
  obtain ⟨k, ek, h1⟩ := h1.may
  exact ⟨k, tru_rp s1 rv ek, h1.at s1⟩
/-- a comparison: its value, its test -/
def SdC (p : Pl) (e : Expr) (c : CE) : Prop := ∀ X C, Good X p C → ∃ t, PE X e t ∧ PT X e (tTest t) ∧ ∀ σ H Q, tE (fgX X) (evE C c) σ H Q → t σ H Q
def isB : D → Bool
  | .bl _ => true
  | _ => false
theorem SdC.val (h : SdC p e ca) : SdE p e ca := fun X C g => by
  obtain ⟨t, h1, _, h3⟩ := h X C g
  exact h1.pq h3
theorem SdC.test (h : SdC p e ca) (hb : ∀ C ρ S d S', evE C ca ρ S = .ok d S' → isB d = true) : SdT p e (.v ca) := fun X C g => by
  obtain ⟨t, _, h2, h3⟩ := h X C g
  refine h2.pq fun σ H Q ⟨μ, ρ, S, he, hs, h⟩ => h3 σ H _ ?_
  unfold evT at h
  refine ⟨μ, ρ, S, he, hs, h.bind.imp fun x S1 μ1 H1 ex e1 s1 h1 v rv => ?_⟩
  have := hb _ _ _ _ _ ex
  cases x with
  | bl b =>
    cases rv
    obtain ⟨k, ek, h1⟩ := h1.may
    cases ek
    exact ⟨b, rfl, h1.at s1⟩
  | _ => cases this
theorem sw_and1 (ha : SdT p a ta) : SdW p (.BoolOp .And [a] pos) ta := fun X C g => pw_and1 (ha X C g)
theorem sw_or1 (ha : SdT p a ta) : SdW p (.BoolOp .Or [a] pos) ta := fun X C g => pw_or1 (ha X C g)
theorem sw_and {rest : List Expr} (ha : SdT p a ta) (hb : SdW p (.BoolOp .And (b :: rest) pos) tb) : SdW p (.BoolOp .And (a :: b :: rest) pos) (.and ta tb) := fun X C g => (pw_and (ha X C g) (hb X C g)).pq fun σ H Q ⟨μ, ρ, S, he, hs, h⟩ => by
  unfold evT at h
  refine ⟨μ, ρ, S, he, hs, h.bind.imp fun k S1 μ1 H1 _ e1 s1 h1 => ?_⟩
  cases k with
  | true => rw [if_pos rfl] at h1 ⊢; exact ⟨μ1, ρ, S1, he.mono e1, s1, h1⟩
  | false => rw [if_neg Bool.false_ne_true] at h1 ⊢; exact h1.at s1
theorem sw_or {rest : List Expr} (ha : SdT p a ta) (hb : SdW p (.BoolOp .Or (b :: rest) pos) tb) : SdW p (.BoolOp .Or (a :: b :: rest) pos) (.or ta tb) := fun X C g => (pw_or (ha X C g) (hb X C g)).pq fun σ H Q ⟨μ, ρ, S, he, hs, h⟩ => by
  unfold evT at h
  refine ⟨μ, ρ, S, he, hs, h.bind.imp fun k S1 μ1 H1 _ e1 s1 h1 => ?_⟩
  cases k with
  | true => rw [if_pos rfl] at h1 ⊢; exact h1.at s1
  | false => rw [if_neg Bool.false_ne_true] at h1 ⊢; exact ⟨μ1, ρ, S1, he.mono e1, s1, h1⟩
theorem st_w (h : SdW p e ta) : SdT p e ta := fun X C g => (h X C g).pt
theorem st_not (ha : SdT p a ta) : SdT p (.UnaryOp .Not a pos) (.not ta) := fun X C g => (pt_not (ha X C g)).pq fun σ H Q ⟨μ, ρ, S, he, hs, h⟩ => by
  unfold evT at h
  exact ⟨μ, ρ, S, he, hs, h.bind.imp fun k S1 μ1 H1 _ e1 s1 h1 => h1.at s1⟩

/-! ### comparisons by their sign -/
def copOp : Cop → CmpOp
  | .eq => .Eq | .ne => .NotEq | .lt => .Lt | .le => .LtE | .gt => .Gt | .ge => .GtE
def copR : Cop → Fg → R2
  | .eq, K => rEq2 K false
  | .ne, K => rEq2 K true
  | .lt, K => fun x y H Q => rI0 (fun i j => .bl (decide (i < j))) x y H Q ∨ rOrd (fun d e => PySem.W.dataLt d e) K x y H Q
  | .le, K => fun x y H Q => rI0 (fun i j => .bl (decide (i ≤ j))) x y H Q ∨ rOrd (fun d e => !PySem.W.dataLt e d) K x y H Q
  | .gt, K => fun x y H Q => rI0 (fun i j => .bl (decide (j < i))) x y H Q ∨ rOrd (fun d e => PySem.W.dataLt e d) K x y H Q
  | .ge, K => fun x y H Q => rI0 (fun i j => .bl (decide (j ≤ i))) x y H Q ∨ rOrd (fun d e => !PySem.W.dataLt d e) K x y H Q
theorem cop_op (o : Cop) (X : Cx) (C : Orc) (g : Good X p C) : OpR X (compareOp (copOp o)) (copR o (fgX X)) := by
  have := g.un
  cases o with
  | eq => exact op_eq.or (op_eqP (by omega))
  | ne => exact op_ne.or (op_neP (by omega))
  | lt => exact op_lt.or (op_ltO (by omega))
  | le => exact op_le.or (op_leO (by omega))
  | gt => exact op_gt.or (op_gtO (by omega))
  | ge => exact op_ge.or (op_geO (by omega))
theorem cop_os (o : Cop) : OpS (cmpD o) (copR o) := by
  cases o with
  | eq =>
      intro K μ H S x y v u Q hs rx ry h
      obtain ⟨b, e, h⟩ := Po.may (show Po K μ H (may (dEq S x y) fun b => Res.ok (D.bl b) S) _ from h)
      exact dEq_ok hs false rx ry e (h.at hs _ rfl)
  | ne =>
      intro K μ H S x y v u Q hs rx ry h
      obtain ⟨b, e, h⟩ := Po.may (show Po K μ H (may (dEq S x y) fun b => Res.ok (D.bl (!b)) S) _ from h)
      exact dEq_ok hs true rx ry e (h.at hs _ rfl)
  | lt => exact os_cmpI (fun _ _ _ => rfl) (cmp_else .lt rfl) fun _ _ => rfl
  | le => exact os_cmpI (fun _ _ _ => rfl) (cmp_else .le rfl) fun _ _ => rfl
  | gt => exact os_cmpI (fun _ _ _ => rfl) (cmp_else .gt rfl) fun _ _ => rfl
  | ge => exact os_cmpI (fun _ _ _ => rfl) (cmp_else .ge rfl) fun _ _ => rfl
theorem cmp_bl {o : Cop} {x y : D} {S : Sto} {d : D} {S' : Sto} (h : cmpD o x y S = .ok d S') : ∃ k, d = .bl k := by
  cases o with
  | eq =>
    have h : may (dEq S x y) (fun b => Res.ok (D.bl b) S) = .ok d S' := h
    cases e : dEq S x y with
    | none => rw [e] at h; cases h
    | some k => rw [e] at h; cases h; exact ⟨_, rfl⟩
  | ne =>
    have h : may (dEq S x y) (fun b => Res.ok (D.bl (!b)) S) = .ok d S' := h
    cases e : dEq S x y with
    | none => rw [e] at h; cases h
    | some k => rw [e] at h; cases h; exact ⟨_, rfl⟩
  | _ =>
    have key : ∀ o : Cop, ordD o x y S = .ok d S' → ∃ k, d = .bl k := fun o h => by
      unfold ordD at h
      split at h
      · split at h
        · cases h; exact ⟨_, rfl⟩
        · cases h
      · cases h
    cases x <;> first | exact key .lt h | exact key .le h | exact key .gt h | exact key .ge h | (cases y <;> first | exact key .lt h | exact key .le h | exact key .gt h | exact key .ge h | (injection h with h1 h2; exact ⟨_, h1.symm⟩))
theorem bind_ok {α β : Type} {r : Res α} {f : α → Sto → Res β} {b : β} {S' : Sto} (h : r.bind f = .ok b S') : ∃ a S1, r = .ok a S1 ∧ f a S1 = .ok b S' := by
  cases r with
  | ok a S1 => exact ⟨a, S1, rfl, h⟩
  | exc c fs S1 => cases h
  | bad => cases h
theorem may_ok {α β : Type} {o : Option α} {f : α → Res β} {b : β} {S' : Sto} (h : may o f = .ok b S') : ∃ a, o = some a ∧ f a = .ok b S' := by
  cases o with
  | none => cases h
  | some a => exact ⟨a, rfl, h⟩
theorem sc_cmp (o : Cop) (ha : SdE p a ca) (hb : SdE p b cb) : SdC p (.Compare a [copOp o] [b] pos) (.cmp o ca cb) := fun X C g => by
  have h1 : copOp o ≠ .In := by cases o <;> (intro z; cases z)
  have h2 : copOp o ≠ .NotIn := by cases o <;> (intro z; cases z)
  refine ⟨_, pe_cmpR (cop_op o X C g) (ha X C g) (hb X C g) (nomark b h1 h2), pt_cmpR (cop_op o X C g) (ha X C g) (hb X C g) (nomark b h1 h2), fun σ H Q h => tOp_imp (cop_os o) ?_⟩
  obtain ⟨μ, ρ, S, he, hs, h⟩ := h
  unfold evE at h
  exact ⟨μ, ρ, S, he, hs, h⟩
theorem b_cmp {o : Cop} : ∀ C ρ S d S', evE C (.cmp o ca cb) ρ S = .ok d S' → isB d = true := fun C ρ S d S' h => by
  unfold evE at h
  obtain ⟨x, S1, _, h⟩ := bind_ok h
  obtain ⟨y, S2, _, h⟩ := bind_ok h
  obtain ⟨k, rfl⟩ := cmp_bl h
  rfl
theorem sc_chn (o q : Cop) (hm : lastMarks [copOp o, copOp q] [b, c] = false) (ha : SdE p a ca) (hb : SdE p b cb) (hc : SdE p c cc) : SdC p (.Compare a [copOp o, copOp q] [b, c] pos) (.chn o q ca cb cc) := fun X C g => by
  refine ⟨_, pe_chain (cop_op o X C g) (cop_op q X C g) (ha X C g) (hb X C g) (hc X C g) hm, pt_chain (cop_op o X C g) (cop_op q X C g) (ha X C g) (hb X C g) (hc X C g) hm, fun σ H Q ⟨μ, ρ, S, he, hs, h⟩ => ?_⟩
  unfold evE at h
  refine ⟨μ, ρ, S, he, hs, h.bind.imp fun x S1 μ1 H1 _ e1 s1 h1 v rv => ?_⟩
  refine ⟨μ1, ρ, S1, he.mono e1, s1, h1.bind.imp fun y S2 μ2 H2 _ e2 s2 h2 u ru => ?_⟩
  refine cop_os o (fgX X) μ2 H2 S2 x y v u _ s2 (rv.mono e2) ru (h2.bind.imp fun z S3 μ3 H3 ez e3 s3 h3 w rw_ => ?_)
  obtain ⟨k, rfl⟩ := cmp_bl ez
  refine ⟨k, rw_, ?_⟩
  cases k with
  | true =>
    rw [if_pos rfl]
    refine ⟨μ3, ρ, S3, he.mono (e1.trans (e2.trans e3)), s3, h3.bind.imp fun w' S4 μ4 H4 _ e4 s4 h4 t rt => ?_⟩
    exact cop_os q (fgX X) μ4 H4 S4 y w' u t Q s4 ((ru.mono e3).mono e4) rt h4
  | false =>
    rw [if_neg Bool.false_ne_true]
    exact h3.at s3 _ rfl
theorem b_chn {o q : Cop} : ∀ C ρ S d S', evE C (.chn o q ca cb cc) ρ S = .ok d S' → isB d = true := fun C ρ S d S' h => by
  unfold evE at h
  obtain ⟨x, S1, _, h⟩ := bind_ok h
  obtain ⟨y, S2, _, h⟩ := bind_ok h
  obtain ⟨z, S3, ez, h⟩ := bind_ok h
  obtain ⟨k, rfl⟩ := cmp_bl ez
  cases k with
  | true =>
    obtain ⟨w, S4, _, h⟩ := bind_ok h
    obtain ⟨k, rfl⟩ := cmp_bl h
    rfl
  | false => cases h; rfl
theorem sc_isN {j pos'} (ha : SdE p a ca) : SdC p (.Compare a [.Is] [.Constant .none j pos'] pos) (.isN ca) := fun X C g => by
  refine ⟨_, pe_cmp (pc_isN (ha X C g)), pt_cmp (pc_isN (ha X C g)), fun σ H Q ⟨μ, ρ, S, he, hs, h⟩ => ?_⟩
  unfold evE at h
  refine ⟨μ, ρ, S, he, hs, h.bind.imp fun x S1 μ1 H1 _ e1 s1 h1 v rv => ?_⟩
  show Q (V.bl (decide (v = V.non))) H1
  rw [isN_rp rv]
  exact h1.at s1 _ rfl
theorem sc_notN {j pos'} (ha : SdE p a ca) : SdC p (.Compare a [.IsNot] [.Constant .none j pos'] pos) (.notN ca) := fun X C g => by
  refine ⟨_, pe_cmp (pc_notN (ha X C g)), pt_cmp (pc_notN (ha X C g)), fun σ H Q ⟨μ, ρ, S, he, hs, h⟩ => ?_⟩
  unfold evE at h
  refine ⟨μ, ρ, S, he, hs, h.bind.imp fun x S1 μ1 H1 _ e1 s1 h1 v rv => ?_⟩
  show Q (V.bl (!decide (v = V.non))) H1
  rw [isN_rp rv]
  exact h1.at s1 _ rfl
theorem b_isN : ∀ C ρ S d S', evE C (.isN ca) ρ S = .ok d S' → isB d = true := fun C ρ S d S' h => by
  unfold evE at h
  obtain ⟨x, S1, _, h⟩ := bind_ok h
  cases h; rfl
theorem b_notN : ∀ C ρ S d S', evE C (.notN ca) ρ S = .ok d S' → isB d = true := fun C ρ S d S' h => by
  unfold evE at h
  obtain ⟨x, S1, _, h⟩ := bind_ok h
  cases h; rfl
end
end PQ

/-! Subscripts, calls, built-ins. -/
namespace PQ
open PySem PySem.Spec PyProof.Rows L2
section
variable {p : Pl} {a b c e : Expr} {ca cb cc : CE} {cr : CR} {pos : Pos}
section
variable {K : Fg} {μ : List Addr} {H : Hp} {S : Sto} {x y d : D} {v u : V} {Q : VK} {ds : List D} {vs : List V} {r : RV}
theorem ls_rv (hs : StOk K μ H S) (rv : RvR K μ H r v) (h : lsOf S r = some ds) : ∃ a vs, v = .ref a ∧ SqL K H a vs ∧ RpA K μ H ds vs ∧ ds.length ≤ sizeLine := by
  cases r with
  | own es =>
    cases h
    obtain ⟨a, vs, h1, h2, _, h4, h5⟩ := rv
    exact ⟨a, vs, h1, .of h2, h4, h5⟩
  | val d =>
    cases d with
    | fix es =>
      cases h
      obtain ⟨a, vs, h1, h2, h3, h4⟩ := rv
      exact ⟨a, vs, h1, h2.sq, h3, h4⟩
    | ref i =>
      have h : (match S[i]? with
        | some (Ob.lst ds) => some ds
        | _ => none) = some ds := h
      cases ei : S[i]? with
      | none => rw [ei] at h; cases h
      | some o =>
        rw [ei] at h
        cases o with
        | dic ks => first | (cases h; done) | exact (show False from h).elim
        | frd ks => first | (cases h; done) | exact (show False from h).elim
        | dkt ks => first | (cases h; done) | exact (show False from h).elim
        | lst es =>
          cases h
          obtain ⟨a, vs, h1, _, h2, h3, h4⟩ := rp_ref rv hs ei
          exact ⟨a, vs, h1, .of h2, h3, h4⟩
    | _ => cases h
theorem tr_rv (hs : StOk K μ H S) (rv : RvR K μ H r v) (h : trOf S r = some ds) : ∃ a vs, v = .ref a ∧ H a = some (.lst vs) ∧ RpA K μ H ds vs ∧ ds.length ≤ sizeLine := by
  cases r with
  | own es =>
    cases h
    obtain ⟨a, vs, h1, h2, _, h4, h5⟩ := rv
    exact ⟨a, vs, h1, h2, h4, h5⟩
  | val d =>
    cases d with
    | ref i =>
      have h : (match S[i]? with
        | some (Ob.lst ds) => some ds
        | _ => none) = some ds := h
      cases ei : S[i]? with
      | none => rw [ei] at h; cases h
      | some o =>
        rw [ei] at h
        cases o with
        | dic ks => first | (cases h; done) | exact (show False from h).elim
        | frd ks => first | (cases h; done) | exact (show False from h).elim
        | dkt ks => first | (cases h; done) | exact (show False from h).elim
        | lst es =>
          cases h
          obtain ⟨a, vs, h1, _, h2, h3, h4⟩ := rp_ref rv hs ei
          exact ⟨a, vs, h1, h2, h3, h4⟩
    | _ => cases h
theorem sq_rv (hs : StOk K μ H S) (rv : RvR K μ H r v) (h : sqOf S r = some ds) : ∃ a vs, v = .ref a ∧ (SqL K H a vs ∨ (SqN K H a vs ∧ r = .val (.tup ds))) ∧ RpA K μ H ds vs ∧ ds.length ≤ sizeLine := by
  by_cases ht : ∃ es, r = .val (.tup es)
  · obtain ⟨es, rfl⟩ := ht
    cases h
    obtain ⟨a, vs, h1, h2, h3, h4⟩ := rv
    exact ⟨a, vs, h1, .inr ⟨h2, rfl⟩, h3, h4⟩
  · have h : lsOf S r = some ds := by
      cases r with
      | own es => exact h
      | val d => cases d <;> first | exact h | exact absurd ⟨_, rfl⟩ ht
    obtain ⟨a, vs, h1, h2, h3, h4⟩ := ls_rv hs rv h
    exact ⟨a, vs, h1, .inl h2, h3, h4⟩
theorem sq_or {a : Addr} {X : Prop} (h : SqL K H a vs ∨ (SqN K H a vs ∧ X)) : SqL K H a vs ∨ SqT K H a vs := h.elim .inl fun z => .inr z.1.sq
theorem rp_ints : ∀ {ds : List D} {vs : List V} {ns : List Int}, RpA K μ H ds vs → intsOf ds = some ns → vs = ns.map V.int
  | [], _, _, r, h => by cases h; exact r
  | d :: ds, _, ns, ⟨v, r, e, h1, h2⟩, h => by
    cases d with
    | int i =>
      have h : (intsOf ds).map (i :: ·) = some ns := h
      cases e1 : intsOf ds with
      | none => rw [e1] at h; cases h
      | some ms =>
        rw [e1] at h
        cases h
        rw [e, show v = V.int i from h1, rp_ints h2 e1]
        rfl
    | _ => cases h
theorem rp_bools : ∀ {ds : List D} {vs : List V} {ns : List Bool}, RpA K μ H ds vs → boolsOf ds = some ns → vs = ns.map V.bl
  | [], _, _, r, h => by cases h; exact r
  | d :: ds, _, ns, ⟨v, r, e, h1, h2⟩, h => by
    cases d with
    | bl i =>
      have h : (boolsOf ds).map (i :: ·) = some ns := h
      cases e1 : boolsOf ds with
      | none => rw [e1] at h; cases h
      | some ms =>
        rw [e1] at h
        cases h
        rw [e, show v = V.bl i from h1, rp_bools h2 e1]
        rfl
    | _ => cases h
theorem rp_at (r : RpA K μ H ds vs) {i : Int} (h : atI ds i = some d) : ∃ v, atI vs i = some v ∧ Rp K μ H d v := by
  unfold atI at h ⊢
  rw [← r.length]
  cases e : ixN ds.length i with
  | none => rw [e] at h; cases h
  | some j =>
    rw [e] at h
    exact r.get h
theorem cutD_ok (r : RpA K μ H ds vs) (lo hi : Option Int) : RpA K μ H (cutD ds lo hi) (cutV vs lo hi) := by
  unfold cutD cutV
  rw [r.length]
  exact (r.drop _).take _
theorem cutD_len (ds : List D) (lo hi : Option Int) : (cutD ds lo hi).length ≤ ds.length := by
  unfold cutD
  rw [List.length_take, List.length_drop]
  omega
end

/-! ### a[i], a[lo:hi] -/
/-- d[k] of a dict -/
def rIxD : R2 := fun x y H Q => ∃ a v, x = .ref a ∧ DGet H a y (some v) ∧ Q v H
theorem ix_dic {X : Cx} (hu : X.A.units + 1 < cLine) : IxR X rIxD := by
  intro value slice pins s σ H x y v u Q I rx ry h hs
  obtain ⟨a, w, rfl, g, q⟩ := h
  cases rx
  exact tail_any (dict_typeIs I g) PySem.F.slot_dict_getitem.lookup (d_getItem hu I g ry fun w' s' I' rw' => ⟨w, H, I', rw', q⟩) hs
def rIx2 (K : Fg) : R2 := fun x y H Q => rIxD x y H Q ∨ rIx K x y H Q
theorem dic_rv {K : Fg} {μ : List Addr} {H : Hp} {S : Sto} {v : V} {r : RV} {ks : List (Key × D)} (hs : StOk K μ H S) (rv : RvR K μ H r v) (h : dicOf S r = some ks) : ∃ a vs, v = .ref a ∧ Rd H a (.dK vs) ∧ RpK K μ H ks vs ∧ ks.length ≤ sizeLine ∧ Nk ks := by
  cases r with
  | own es => cases h
  | val d =>
    cases d with
    | ref i =>
      have h : (match S[i]? with
        | some (Ob.dic ks) => some ks
        | some (Ob.frd ks) => some ks
        | _ => none) = some ks := h
      cases ei : S[i]? with
      | none => rw [ei] at h; cases h
      | some o =>
        rw [ei] at h
        cases o with
        | lst ds => cases h
        | dic ks' =>
          cases h
          obtain ⟨a, e1, ea⟩ := rv
          obtain ⟨vs, h1, h2, h3, h4⟩ := hs.dic ei ea
          exact ⟨a, vs, e1, .inl h1, h2, h3, h4⟩
        | frd ks' =>
          cases h
          obtain ⟨a, e1, ea⟩ := rv
          obtain ⟨vs, h1, h2, h3, h4⟩ := hs.frd ei ea
          exact ⟨a, vs, e1, .inr h1, h2, h3, h4⟩
        | dkt ks' => cases h
    | _ => cases h
theorem rp_refD {K : Fg} {μ : List Addr} {H : Hp} {S : Sto} {v : V} {i : Nat} (r : Rp K μ H (.ref i) v) (hs : StOk K μ H S) {ks : List (Key × D)} (e : S[i]? = some (.dic ks)) : ∃ a vs, v = .ref a ∧ μ[i]? = some a ∧ H a = some (.dK vs) ∧ RpK K μ H ks vs ∧ ks.length ≤ sizeLine ∧ Nk ks := by
  obtain ⟨a, rfl, ea⟩ := r
  obtain ⟨vs, h1, h2, h3, h4⟩ := hs.dic e ea
  exact ⟨a, vs, rfl, ea, h1, h2, h3, h4⟩
theorem rp_refF {K : Fg} {μ : List Addr} {H : Hp} {S : Sto} {v : V} {i : Nat} (r : Rp K μ H (.ref i) v) (hs : StOk K μ H S) {ks : List (Key × D)} (e : S[i]? = some (.frd ks)) : ∃ a vs, v = .ref a ∧ μ[i]? = some a ∧ (∃ o, H a = some (.frz o (.dK vs))) ∧ RpK K μ H ks vs ∧ ks.length ≤ sizeLine ∧ Nk ks := by
  obtain ⟨a, rfl, ea⟩ := r
  obtain ⟨vs, h1, h2, h3, h4⟩ := hs.frd e ea
  exact ⟨a, vs, rfl, ea, h1, h2, h3, h4⟩
theorem dget_rd {H : Hp} {a : Addr} {kvs : List (Key × V)} {k : Key} (h : Rd H a (.dK kvs)) : DGet H a (kV k) (valV kvs k) := .inl ⟨kvs, k, h, rfl, rfl⟩
/-- d[k], k a tuple -/
def rIxTb (K : Fg) : R2 := fun x y H Q => ∃ (a b : Addr) (xs : List TEn) (k : NestedKey) (p : Addr × Value) (v : V), x = .ref a ∧ y = .ref b ∧ H a = some (TbO K.P K.w a xs) ∧ KysOk K.k H xs ∧ KyV K.k H k (.ref b) ∧ k.depth ≤ 8 ∧ atKey xs k = some p ∧ RelV v p.2 ∧ Q v H
theorem ix_tb {X : Cx} (hu : X.A.units + 30 < cLine) : IxR X (rIxTb (fgX X)) := by
  intro value slice pins s σ H x y v u Q I rx ry h hs
  obtain ⟨a, b, xs, k, p, w, rfl, rfl, e, ky, hk, hd, hp, rv, q⟩ := h
  cases rx
  cases ry
  exact tail_any (tb_at I e ky).typeIs PySem.F.slot_dict_getitem.lookup (t_getItem (by omega) I e ky hk hd hp fun s' I' => ⟨w, H, I', rv, q⟩) hs
theorem key_t {K : Fg} {μ : List Addr} {H : Hp} {d : D} {k : NestedKey} {v : V} (h : keyT d = some k) (r : Rp K μ H d v) : (∃ b, v = .ref b) ∧ KyV K.k H k v ∧ k.depth ≤ 8 := by
  cases d with
  | tup ds =>
    have h : ((nksOf ds).bind fun ks => if (NestedKey.tup ks).depth ≤ 8 then some (NestedKey.tup ks) else none) = some k := h
    obtain ⟨ks, e, h⟩ := Option.bind_eq_some_iff.mp h
    split at h
    · rename_i hd
      cases h
      refine ⟨?_, ky_rp (.tup ds) (.tup ks) v (by show (nksOf ds).map _ = _; rw [e]; rfl) r, hd⟩
      obtain ⟨b, vs, h1, _⟩ := r
      exact ⟨b, h1⟩
    · cases h
  | _ => exact nomatch h
theorem rp_refT {K : Fg} {μ : List Addr} {H : Hp} {S : Sto} {v : V} {i : Nat} (r : Rp K μ H (.ref i) v) (hs : StOk K μ H S) {ks : List (NestedKey × D)} (e : S[i]? = some (.dkt ks)) : ∃ a xs, v = .ref a ∧ μ[i]? = some a ∧ H a = some (TbO K.P K.w a xs) ∧ (a == sysModules) = false ∧ KysOk K.k H xs ∧ TbR K μ H ks xs ∧ ks.length ≤ sizeLine := by
  obtain ⟨a, rfl, ea⟩ := r
  obtain ⟨xs, h1, h2, h3, h4, h5⟩ := hs.ob i _ a e ea
  exact ⟨a, xs, rfl, ea, h1, h2, h3, h4, h5⟩
theorem os_idx0 {K : Fg} {μ : List Addr} {H : Hp} {S : Sto} {x y : D} {v u : V} {Q : VK} (hy : ∀ ds, y ≠ .tup ds) (hs : StOk K μ H S) (rx : Rp K μ H x v) (ry : Rp K μ H y u) (h : Po K μ H (idxD x y S) fun d _ μ' H' => ∀ v, Rp K μ' H' d v → Q v H') : rIx2 K v u H Q := by
  cases x with
  | tup ds =>
    cases y with
    | int i =>
      obtain ⟨d, e, h⟩ := Po.may (show Po K μ H (may (atI ds i) fun d => Res.ok d S) _ from h)
      obtain ⟨a, vs, rfl, h1, h2, _⟩ := rx
      obtain ⟨w, e1, r1⟩ := rp_at h2 e
      exact .inr (.inr (.inl ⟨a, vs, i, w, rfl, ry, h1.sq, e1, h.at hs w r1⟩))
    | _ => exact (show False from h).elim
  | fix ds =>
    cases y with
    | int i =>
      obtain ⟨d, e, h⟩ := Po.may (show Po K μ H (may (atI ds i) fun d => Res.ok d S) _ from h)
      obtain ⟨a, vs, rfl, h1, h2, _⟩ := rx
      obtain ⟨w, e1, r1⟩ := rp_at h2 e
      exact .inr (.inl ⟨a, vs, i, w, rfl, ry, h1.sq, e1, h.at hs w r1⟩)
    | _ => exact (show False from h).elim
  | ref n =>
    cases y with
    | int i =>
      have h : Po K μ H (match S[n]? with
        | some (Ob.lst ds) => may (atI ds i) fun d => Res.ok d S
        | some (Ob.dic ks) => may (gD ks (.inl i)) fun d => Res.ok d S
        | some (Ob.frd ks) => may (gD ks (.inl i)) fun d => Res.ok d S
        | _ => Res.bad) _ := h
      cases ei : S[n]? with
      | none => rw [ei] at h; exact (show False from h).elim
      | some o =>
        rw [ei] at h
        cases o with
        | lst ds =>
          obtain ⟨d, e, h⟩ := Po.may h
          obtain ⟨a, vs, rfl, _, h1, h2, _⟩ := rp_ref rx hs ei
          obtain ⟨w, e1, r1⟩ := rp_at h2 e
          exact .inr (.inl ⟨a, vs, i, w, rfl, ry, .of h1, e1, h.at hs w r1⟩)
        | dic ks =>
          obtain ⟨d, e, h⟩ := Po.may h
          obtain ⟨a, vs, rfl, _, h1, h2, _⟩ := rp_refD rx hs ei
          obtain ⟨w, e1, r1⟩ := h2.getS e
          refine .inl ⟨a, w, rfl, ?_, h.at hs w r1⟩
          rw [show u = kV (.inl i) from ry, ← e1]
          exact DGet.k h1
        | frd ks =>
          obtain ⟨d, e, h⟩ := Po.may h
          obtain ⟨a, vs, rfl, _, h1, h2, _⟩ := rp_refF rx hs ei
          obtain ⟨w, e1, r1⟩ := h2.getS e
          refine .inl ⟨a, w, rfl, ?_, h.at hs w r1⟩
          rw [show u = kV (.inl i) from ry, ← e1]
          exact dget_rd (.inr h1)
        | dkt ks => exact (show False from h).elim
    | str z =>
      have h : Po K μ H (match S[n]? with
        | some (Ob.dic ks) => may (gD ks (.inr z)) fun d => Res.ok d S
        | some (Ob.frd ks) => may (gD ks (.inr z)) fun d => Res.ok d S
        | _ => Res.bad) _ := h
      cases ei : S[n]? with
      | none => rw [ei] at h; exact (show False from h).elim
      | some o =>
        rw [ei] at h
        cases o with
        | lst ds => exact (show False from h).elim
        | dic ks =>
          obtain ⟨d, e, h⟩ := Po.may h
          obtain ⟨a, vs, rfl, _, h1, h2, _⟩ := rp_refD rx hs ei
          obtain ⟨w, e1, r1⟩ := h2.getS e
          refine .inl ⟨a, w, rfl, ?_, h.at hs w r1⟩
          rw [show u = kV (.inr z) from ry, ← e1]
          exact DGet.k h1
        | frd ks =>
          obtain ⟨d, e, h⟩ := Po.may h
          obtain ⟨a, vs, rfl, _, h1, h2, _⟩ := rp_refF rx hs ei
          obtain ⟨w, e1, r1⟩ := h2.getS e
          refine .inl ⟨a, w, rfl, ?_, h.at hs w r1⟩
          rw [show u = kV (.inr z) from ry, ← e1]
          exact dget_rd (.inr h1)
        | dkt ks => exact (show False from h).elim
    | tup ds => exact absurd rfl (hy ds)
    | _ => exact (show False from h).elim
  | str z =>
    cases y with
    | int i =>
      obtain ⟨hz, h⟩ := Po.ite (show Po K μ H (if z.length ≤ sizeLine then may (atI z.cps.toList i) fun c => Res.ok (D.str ⟨#[c]⟩) S else Res.bad) _ from h)
      obtain ⟨k, e, h⟩ := Po.may h
      exact .inr (.inr (.inr ⟨z, i, k, rx, ry, hz, e, h.at hs _ rfl⟩))
    | _ => exact (show False from h).elim
  | _ => exact (show False from h).elim
def rIx3 (K : Fg) : R2 := fun x y H Q => rIx2 K x y H Q ∨ rIxTb K x y H Q
theorem os_idx : OpS idxD rIx3 := by
  intro K μ H S x y v u Q hs rx ry h
  by_cases hy : ∃ ds, y = .tup ds
  · obtain ⟨ds, rfl⟩ := hy
    cases x with
    | ref n =>
      obtain ⟨k, ek, h⟩ := Po.may (show Po K μ H (may (keyT (.tup ds)) fun k => idxT n k S) _ from h)
      have h : Po K μ H (match S[n]? with
        | some (Ob.dkt ks) => may (gT ks k) fun d => Res.ok d S
        | _ => Res.bad) _ := h
      cases ei : S[n]? with
      | none => rw [ei] at h; exact (show False from h).elim
      | some o =>
        rw [ei] at h
        cases o with
        | dkt ks =>
          obtain ⟨d, e, h⟩ := Po.may h
          obtain ⟨a, xs, rfl, _, h1, h2, h3, h4, _⟩ := rp_refT rx hs ei
          obtain ⟨⟨b, rfl⟩, k1, k2⟩ := key_t ek ry
          rcases h4.get (k := k) with ⟨z, _⟩ | ⟨d', p, w, g1, g2, g3, g4⟩
          · rw [e] at z; cases z
          · rw [e] at g1
            cases g1
            exact .inr ⟨a, b, xs, k, p, w, rfl, rfl, h1, h3, k1, k2, g2, g3, h.at hs w g4⟩
        | _ => exact (show False from h).elim
    | _ => exact (show False from h).elim
  · exact .inl (os_idx0 (fun ds e => hy ⟨ds, e⟩) hs rx ry h)
theorem sd_idx (hn : notSlice b = true) (ha : SdE p a ca) (hb : SdE p b cb) : SdE p (.Subscript a b pos) (.idx ca cb) := fun X C g =>
  (pe_ix (r := rIx3 (fgX X)) (((ix_dic (by have := g.un; omega)).or ix_seq).or (ix_tb (by have := g.un; omega))) (ha X C g) (hb X C g) (plain_ix hn)).pq fun σ H Q h => tOp_imp os_idx (by
    obtain ⟨μ, ρ, S, he, hs, h⟩ := h
    unfold evE at h
    exact ⟨μ, ρ, S, he, hs, h⟩)
theorem so_none : SdO p none .none := fun X C g => po_none.pq fun σ H Q ⟨μ, ρ, S, he, hs, h⟩ => by
  unfold evO at h
  exact h.at hs
theorem so_some (ha : SdE p a ca) : SdO p (some a) (.some ca) := fun X C g => (po_some (ha X C g)).pq fun σ H Q ⟨μ, ρ, S, he, hs, h⟩ => by
  unfold evO at h
  refine ⟨μ, ρ, S, he, hs, h.bind.imp fun x S1 μ1 H1 _ e1 s1 h1 v rv => ?_⟩
  cases x with
  | int i => exact ⟨i, rv, h1.at s1⟩
  | _ => exact (show False from h1).elim
def rSl3 (K : Fg) : V → Option Int → Option Int → Hp → VK → Prop := fun x lo hi H Q => rSlN K x lo hi H Q ∨ (rSlL K x lo hi H Q ∨ rSlS x lo hi H Q)
theorem os_slc {K : Fg} {μ : List Addr} {H : Hp} {S : Sto} {x : D} {v : V} {Q : VK} {lo hi : Option Int} (hs : StOk K μ H S) (rx : Rp K μ H x v) (h : Po K μ H (slcD x lo hi S) fun d _ μ' H' => ∀ v, Rp K μ' H' d v → Q v H') : rSl3 K v lo hi H Q := by
  cases x with
  | tup ds =>
    have h : Po K μ H (Res.ok (D.tup (cutD ds lo hi)) S) _ := h
    obtain ⟨a, vs, rfl, h1, h2, h3⟩ := rx
    have hz : (cutD ds lo hi).length ≤ sizeLine := Nat.le_trans (cutD_len _ _ _) h3
    refine .inl ⟨a, vs, rfl, h1.sq, fun hw => ?_, fun _ p o hp c1 c2 => ?_⟩
    · refine h.at hs _ ⟨a, vs, rfl, h1, ?_, hz⟩
      have e : cutV vs lo hi = vs := by
        unfold cutV
        rw [hw.1, hw.2, List.drop_zero, Nat.sub_zero, List.take_length]
      have := cutD_ok h2 lo hi
      rw [e] at this
      exact this
    · exact h μ _ (hs.fresh hp _) (hs.freshOk hp _) _ (rp_tup hs hz (cutD_ok h2 lo hi) hp c1 c2)
  | fix ds =>
    have h : Po K μ H (Res.ok (D.ref S.length) (S ++ [Ob.lst (cutD ds lo hi)])) _ := h
    obtain ⟨a, vs, rfl, h1, h2, h3⟩ := rx
    refine .inr (.inl ⟨a, vs, rfl, h1.sq, fun p hp => ?_⟩)
    obtain ⟨e1, s1, r1⟩ := take_new hs (Nat.le_trans (cutD_len _ _ _) h3) (cutD_ok h2 lo hi) hp
    exact h _ _ e1 s1 _ r1
  | ref n =>
    have h : Po K μ H (match S[n]? with
      | some (Ob.lst ds) => Res.ok (D.ref S.length) (S ++ [Ob.lst (cutD ds lo hi)])
      | _ => Res.bad) _ := h
    cases ei : S[n]? with
    | none => rw [ei] at h; exact (show False from h).elim
    | some o =>
      rw [ei] at h
      cases o with
      | dic ks => first | (cases h; done) | exact (show False from h).elim
      | frd ks => first | (cases h; done) | exact (show False from h).elim
      | dkt ks => first | (cases h; done) | exact (show False from h).elim
      | lst ds =>
        obtain ⟨a, vs, rfl, _, h1, h2, h3⟩ := rp_ref rx hs ei
        refine .inr (.inl ⟨a, vs, rfl, .of h1, fun p hp => ?_⟩)
        obtain ⟨e1, s1, r1⟩ := take_new hs (Nat.le_trans (cutD_len _ _ _) h3) (cutD_ok h2 lo hi) hp
        exact h _ _ e1 s1 _ r1
  | str z =>
    obtain ⟨hz, h⟩ := Po.ite (show Po K μ H (if z.length ≤ sizeLine then Res.ok (D.str (cutS z lo hi)) S else Res.bad) _ from h)
    exact .inr (.inr ⟨z, rx, hz, h.at hs _ rfl⟩)
  | _ => exact (show False from h).elim
theorem sd_slc {lo hi : Option Expr} {cl ch : CO} {p2 : Pos} (ha : SdE p a ca) (hl : SdO p lo cl) (hh : SdO p hi ch) : SdE p (.Subscript a (.Slice lo hi none p2) pos) (.slc ca cl ch) := fun X C g =>
  (pe_slice (r := rSl3 (fgX X)) (sl_tupN.or (sl_list.or sl_str)) (ha X C g) (hl X C g) (hh X C g)).pq fun σ H Q ⟨μ, ρ, S, he, hs, h⟩ => by
    unfold evE at h
    refine ⟨μ, ρ, S, he, hs, h.bind.imp fun x S1 μ1 H1 _ e1 s1 h1 v rv => ?_⟩
    refine ⟨μ1, ρ, S1, he.mono e1, s1, h1.bind.imp fun l S2 μ2 H2 _ e2 s2 h2 => ?_⟩
    refine ⟨μ2, ρ, S2, he.mono (e1.trans e2), s2, h2.bind.imp fun u S3 μ3 H3 _ e3 s3 h3 => ?_⟩
    exact os_slc s3 ((rv.mono e2).mono e3) h3
theorem sq_rev {k : Nat} {p1 p2 p3 : Pos} (ha : SdR p a cr) : SdQ p (.Subscript a (.Slice none none (some (.UnaryOp .USub (.Constant (.int 1) k p1) p2)) p3) pos) (.rev cr) := fun X C g =>
  (pe_revL (ha X C g)).pq fun σ H Q ⟨μ, ρ, S, he, hs, h⟩ => by
    unfold evQ at h
    refine ⟨μ, ρ, S, he, hs, h.bind.imp fun r S1 μ1 H1 _ e1 s1 h1 v rv => ?_⟩
    obtain ⟨ds, eds, h1⟩ := h1.may
    obtain ⟨a, vs, rfl, h2, h3, h4⟩ := ls_rv s1 rv eds
    refine ⟨a, vs, rfl, h2, fun q hq => ?_⟩
    refine h1 μ1 _ (s1.fresh hq _) (s1.freshOk hq _) q _ (e1.alive _ hq) upd_same (fun m => ?_) (h3.mono (s1.fresh hq _)).reverse (by rw [List.length_reverse]; exact h4)
    obtain ⟨w, ew, _⟩ := s1.mem m
    rw [hq] at ew; cases ew
theorem sd_rv {k : Nat} {p1 p2 p3 : Pos} (ha : SdR p a cr) : SdE p (.Subscript a (.Slice none none (some (.UnaryOp .USub (.Constant (.int 1) k p1) p2)) p3) pos) (.rv cr) := fun X C g =>
  (pe_revA (ha X C g)).pq fun σ H Q ⟨μ, ρ, S, he, hs, h⟩ => by
    unfold evE at h
    refine ⟨μ, ρ, S, he, hs, h.bind.imp fun r S1 μ1 H1 _ e1 s1 h1 v rv => ?_⟩
    by_cases ht : ∃ ds, r = .val (.tup ds)
    · obtain ⟨ds, rfl⟩ := ht
      have h1 : Po (fgX X) μ1 H1 (Res.ok (D.tup ds.reverse) S1) _ := h1
      obtain ⟨a, vs, h0, h2, h3, h4⟩ := rv
      have h0 : v = .ref a := h0
      subst h0
      exact ⟨a, vs, rfl, .inr ⟨h2.sq, fun l o hl c1 c2 => h1 μ1 _ (s1.fresh hl _) (s1.freshOk hl _) _ (rp_tup s1 (by rw [List.length_reverse]; exact h4) h3.reverse hl c1 c2)⟩⟩
    · have e : rvD r S1 = may (lsOf S1 r) fun ds => .ok (.ref S1.length) (S1 ++ [.lst ds.reverse]) := by
        clear h1 rv
        cases r with
        | own _ => rfl
        | val d =>
          cases d with
          | tup ds => exact absurd ⟨ds, rfl⟩ ht
          | _ => rfl
      rw [e] at h1
      obtain ⟨ds, eds, h1⟩ := h1.may
      obtain ⟨a, vs, rfl, h2, h3, h4⟩ := ls_rv s1 rv eds
      refine ⟨a, vs, rfl, .inl ⟨h2, fun q hq => ?_⟩⟩
      obtain ⟨e1, s2, r2⟩ := take_new s1 (by rw [List.length_reverse]; exact h4) h3.reverse hq
      exact h1 _ _ e1 s2 _ r2

/-! ### calls of defs -/
theorem sd_call {i : Nat} {x : Str} {es : List Expr} {c : CEs} {q : Pos} (hT : p.T[i]? = some x) (hg : p.sc.names.lookup x = some .globalImplicit) (hd : (x == ("__debug__" : Str)) = false) (hn : notStar e = true) (hns : es.all notStar = true) (ha : SdA p (e :: es) c) :
    SdE p (.Call (.Name x q) (e :: es) [] pos) (.call i c) := fun X C g => by
  obtain ⟨f, fd, ps, k, hm, F, hr, hk, hb⟩ := g.fn i x hT
  refine (pe_callG (dvs := []) F ⟨hr, g.gu⟩ (by show X.env.scope.names.lookup x = _; rw [g.sc]; exact hg) hm hk hb .nil pass0 (ha X C g) hd (star_cons hn es _) (star_any _ _ hns)).pq fun σ H Q ⟨μ, ρ, S, he, hs, h⟩ => ?_
  unfold evE at h
  refine ⟨μ, ρ, S, he, hs, h.bind.imp fun ds S1 μ1 H1 _ e1 s1 h1 vs rvs => ?_⟩
  exact ⟨μ1, ds, S1, s1, by rw [List.append_nil]; exact rvs, h1⟩
theorem sd_call0 {i : Nat} {x : Str} {q : Pos} (hT : p.T[i]? = some x) (hg : p.sc.names.lookup x = some .globalImplicit) (hd : (x == ("__debug__" : Str)) = false) :
    SdE p (.Call (.Name x q) [] [] pos) (.call i .nil) := fun X C g => by
  obtain ⟨f, fd, ps, k, hm, F, hr, hk, hb⟩ := g.fn i x hT
  refine (pe_callG0 (dvs := []) F ⟨hr, g.gu⟩ (by show X.env.scope.names.lookup x = _; rw [g.sc]; exact hg) hm hk hb .nil pass0 hd).pq fun σ H Q ⟨μ, ρ, S, he, hs, h⟩ => ?_
  unfold evE at h
  refine ⟨μ, [], S, hs, rfl, ?_⟩
  have h := h.bind
  unfold evEs at h
  exact h.at hs

/-! ### built-ins by name -/
/-- one argument, walked -/
theorem tCB_R {r : List V → Hp → VK → Prop} {K : Fg} {f : En → Sto → Res RV} {g : RV → Sto → Res D} {σ : Slots} {H : Hp} {Q : VK}
    (hg : ∀ (μ : List Addr) (H : Hp) (S : Sto) (x : RV) (v : V), StOk K μ H S → RvR K μ H x v → Po K μ H (g x S) (fun d _ μ' H' => ∀ v, Rp K μ' H' d v → Q v H') → r [v] H Q)
    (h : tE K (fun ρ S => (f ρ S).bind fun v S1 => g v S1) σ H Q) : tCB r (tCons (tR K f) tNil) σ H Q := by
  obtain ⟨μ, ρ, S, he, hs, h⟩ := h
  exact ⟨μ, ρ, S, he, hs, h.bind.imp fun x S1 μ1 H1 _ e1 s1 h1 v rv => hg μ1 H1 S1 x v s1 rv h1⟩
theorem tCB_E {r : List V → Hp → VK → Prop} {K : Fg} {f : En → Sto → Res D} {g : D → Sto → Res D} {σ : Slots} {H : Hp} {Q : VK}
    (hg : ∀ (μ : List Addr) (H : Hp) (S : Sto) (x : D) (v : V), StOk K μ H S → Rp K μ H x v → Po K μ H (g x S) (fun d _ μ' H' => ∀ v, Rp K μ' H' d v → Q v H') → r [v] H Q)
    (h : tE K (fun ρ S => (f ρ S).bind fun v S1 => g v S1) σ H Q) : tCB r (tCons (tE K f) tNil) σ H Q := by
  obtain ⟨μ, ρ, S, he, hs, h⟩ := h
  exact ⟨μ, ρ, S, he, hs, h.bind.imp fun x S1 μ1 H1 _ e1 s1 h1 v rv => hg μ1 H1 S1 x v s1 rv h1⟩
theorem tCB_EE {r : List V → Hp → VK → Prop} {K : Fg} {f f2 : En → Sto → Res D} {g : D → D → Sto → Res D} {σ : Slots} {H : Hp} {Q : VK}
    (hg : ∀ (μ : List Addr) (H : Hp) (S : Sto) (x y : D) (v u : V), StOk K μ H S → Rp K μ H x v → Rp K μ H y u → Po K μ H (g x y S) (fun d _ μ' H' => ∀ v, Rp K μ' H' d v → Q v H') → r [v, u] H Q)
    (h : tE K (fun ρ S => (f ρ S).bind fun v S1 => (f2 ρ S1).bind fun w S2 => g v w S2) σ H Q) : tCB r (tCons (tE K f) (tCons (tE K f2) tNil)) σ H Q := by
  obtain ⟨μ, ρ, S, he, hs, h⟩ := h
  refine ⟨μ, ρ, S, he, hs, h.bind.imp fun x S1 μ1 H1 _ e1 s1 h1 v rv => ?_⟩
  exact ⟨μ1, ρ, S1, he.mono e1, s1, h1.bind.imp fun y S2 μ2 H2 _ e2 s2 h2 u ru => hg μ2 H2 S2 x y v u s2 (rv.mono e2) ru h2⟩
section
variable {x : Str} {q : Pos}
theorem gl_of {X : Cx} {C : Orc} (g : Good X p C) (hg : p.sc.names.lookup x = some .globalImplicit) : Gl X x := by
  show X.env.scope.names.lookup x = _
  rw [g.sc]
  exact hg
/-- a module's name for a value -/
theorem sd_con {d : D} (h : (x, Gv.con d) ∈ p.G) (hg : p.sc.names.lookup x = some .globalImplicit) (hd : (x == ("__debug__" : Str)) = false) : SdE p (.Name x q) (.lit d) := fun X C g => by
  obtain ⟨v, u, h1, h2, h3⟩ := g.glb x _ h
  exact (pe_glob (gl_of g hg) h1 h2 hd).pq fun σ H Q ⟨μ, ρ, S, he, hs, h⟩ => by
    unfold evE at h
    exact h.at hs v (h3 _ _)
/-- f(r), f a built-in function -/
theorem sd_agg {f : Ag} {id : String} {r : Fg → List V → Hp → VK → Prop} (hc : ∀ X C, Good X p C → CallR X (.builtin id) (r (fgX X))) (hb : x ∈ p.B) (hg : p.sc.names.lookup x = some .globalImplicit) (hv : bootBuiltins x = some (.builtin id)) (hn : x ≠ "__name__") (hdb : (x == ("__debug__" : Str)) = false) (hst : notStar e = true)
    (ho : ∀ (K : Fg) (μ : List Addr) (H : Hp) (S : Sto) (x : RV) (v : V) (Q : VK), StOk K μ H S → RvR K μ H x v → Po K μ H (aggD f x S) (fun d _ μ' H' => ∀ v, Rp K μ' H' d v → Q v H') → r K [v] H Q) (ha : SdR p e cr) :
    SdE p (.Call (.Name x q) [e] [] pos) (.agg f cr) := fun X C g =>
  (pe_callB (hc X C g) (gl_of g hg) (g.blt x hb) hv (pa_cons (ha X C g) pa_nil (star_cons hst [] _)) hn hdb (star_cons hst [] _) rfl).pq fun σ H Q h => tCB_R (fun μ H S x v => ho (fgX X) μ H S x v Q) (by
    obtain ⟨μ, ρ, S, he, hs, h⟩ := h
    unfold evE at h
    exact ⟨μ, ρ, S, he, hs, h⟩)
end
theorem greatest_spec : ∀ {ns : List Int} {m : Int}, greatest ns = some m → m ∈ ns ∧ ∀ y, y ∈ ns → y ≤ m
  | [x], m, h => by cases h; exact ⟨List.mem_singleton.mpr rfl, fun y hy => by rw [List.mem_singleton.mp hy]; exact Int.le_refl _⟩
  | x :: z :: r, m, h => by
    have h : (greatest (z :: r)).map (fun m => if x < m then m else x) = some m := h
    cases e : greatest (z :: r) with
    | none => rw [e] at h; cases h
    | some k =>
      rw [e] at h
      obtain ⟨h1, h2⟩ := greatest_spec e
      have h : (if x < k then k else x) = m := Option.some.inj h
      subst h
      split
      · exact ⟨List.mem_cons_of_mem _ h1, fun y hy => by
          rcases List.mem_cons.mp hy with e | hy
          · rw [e]; omega
          · exact h2 y hy⟩
      · exact ⟨List.mem_cons_self, fun y hy => by
          rcases List.mem_cons.mp hy with e | hy
          · rw [e]; exact Int.le_refl _
          · have := h2 y hy
            omega⟩
theorem least_spec : ∀ {ns : List Int} {m : Int}, least ns = some m → m ∈ ns ∧ ∀ y, y ∈ ns → m ≤ y
  | [x], m, h => by cases h; exact ⟨List.mem_singleton.mpr rfl, fun y hy => by rw [List.mem_singleton.mp hy]; exact Int.le_refl _⟩
  | x :: z :: r, m, h => by
    have h : (least (z :: r)).map (fun m => if m < x then m else x) = some m := h
    cases e : least (z :: r) with
    | none => rw [e] at h; cases h
    | some k =>
      rw [e] at h
      obtain ⟨h1, h2⟩ := least_spec e
      have h : (if k < x then k else x) = m := Option.some.inj h
      subst h
      split
      · exact ⟨List.mem_cons_of_mem _ h1, fun y hy => by
          rcases List.mem_cons.mp hy with e | hy
          · rw [e]; omega
          · exact h2 y hy⟩
      · exact ⟨List.mem_cons_self, fun y hy => by
          rcases List.mem_cons.mp hy with e | hy
          · rw [e]; exact Int.le_refl _
          · have := h2 y hy
            omega⟩
section
variable {q : Pos}
/-- len of a dict -/
def rLenD : List V → Hp → VK → Prop := fun xs H Q => ∃ a kvs, xs = [V.ref a] ∧ Rd H a (.dK kvs) ∧ Q (.int kvs.length) H
theorem cr_lenD {X : Cx} : CallR X (.builtin "len") rLenD := by
  intro pins s σ H xs us Q I r q
  obtain ⟨a, kvs, rfl, hk, q⟩ := q
  rw [Vals.ref1 r]
  exact d_len I hk fun t s' I' => ⟨.int kvs.length, H, I', ⟨t, rfl⟩, q⟩
theorem sd_len (hb : ("len" : Str) ∈ p.B) (hg : p.sc.names.lookup ("len" : Str) = some .globalImplicit) (hst : notStar e = true) (ha : SdR p e cr) : SdE p (.Call (.Name "len" q) [e] [] pos) (.agg .len cr) :=
  sd_agg (r := fun K xs H Q => (∃ x n, xs = [x] ∧ LenV K x H n ∧ Q (.int n) H) ∨ rLenD xs H Q) (fun X C g => call_len.or cr_lenD) hb hg boot_len (by decide) (by decide) hst (fun K μ H S x v Q hs rv h => by
    by_cases hx : ∃ z, x = .val (.str z)
    · obtain ⟨z, rfl⟩ := hx
      obtain ⟨hz, h⟩ := Po.ite (show Po K μ H (if z.length ≤ sizeLine then Res.ok (D.int z.length) S else Res.bad) _ from h)
      cases rv
      exact .inl ⟨_, z.length, rfl, ⟨hz, rfl⟩, h.at hs _ rfl⟩
    · have h : Po K μ H (may (lenOf S x) fun n => Res.ok (D.int n) S) (fun d _ μ' H' => ∀ v, Rp K μ' H' d v → Q v H') := by
        cases x with
        | own ds => exact h
        | val d => cases d <;> first | exact h | exact absurd ⟨_, rfl⟩ hx
      obtain ⟨n, e1, h⟩ := h.may
      unfold lenOf at e1
      cases e2 : sqOf S x with
      | some ds =>
        rw [e2] at e1
        cases e1
        obtain ⟨a, vs, rfl, h1, h2, _⟩ := sq_rv hs rv e2
        refine .inl ⟨_, ds.length, rfl, ?_, h.at hs _ rfl⟩
        rcases h1 with h1 | ⟨h1, _⟩
        · exact .inl ⟨vs, h1, h2.length⟩
        · exact .inr ⟨vs, h1.sq, h2.length⟩
      | none =>
        rw [e2] at e1
        cases e3 : dicOf S x with
        | none => rw [e3] at e1; cases e1
        | some ks =>
          rw [e3] at e1
          cases e1
          obtain ⟨a, vs, rfl, h1, h2, h3, h4⟩ := dic_rv hs rv e3
          refine .inr ⟨a, vs, rfl, h1, ?_⟩
          rw [← h2.length]
          exact h.at hs _ rfl) ha
/-- the sum of a list or of a tuple of numbers -/
def rSumA (K : Fg) : List V → Hp → VK → Prop := fun xs H Q => ∃ (p : Addr) (is : List Int), xs = [V.ref p] ∧ (SqL K H p (is.map V.int) ∨ SqT K H p (is.map V.int)) ∧ Q (.int is.sum) H
theorem cr_sumA {X : Cx} (calm : X.calm = true) : CallR X (.builtin "sum") (rSumA (fgX X)) := by
  intro pins s σ H xs us Q I r h
  obtain ⟨p, is, rfl, sq, q⟩ := h
  rcases sq with sq | sq
  · exact cr_sum calm _ _ _ _ _ _ _ I r ⟨p, is, rfl, sq, q⟩
  · obtain ⟨vals, vr, ⟨o, ho, hc, n, hd⟩, _⟩ := I.tuple sq
    rw [Vals.ref1 r]
    obtain ⟨nums, en⟩ := vr.ints.allInts.items
    have es : numsOf (intItems nums).toList = is := (congrArg (fun z : Array Value => numsOf z.toList) en).symm.trans vr.ints.numsOf
    rw [nums_intItems] at es
    have isT : s.heap.IsTuple p (intItems nums) := en ▸ (⟨o, ho, hc, n, hd⟩ : s.heap.IsTuple p vals.toArray)
    refine PySem.W.ktm_sumG (I.ok.hd calm) isT fun h' tk t' kp => ⟨.int _, H, I.kept kp, ⟨t', ?_⟩, q⟩
    rw [preSum_eq, List.take_of_length_le (by simp), es]
theorem sd_sum (hb : ("sum" : Str) ∈ p.B) (hg : p.sc.names.lookup ("sum" : Str) = some .globalImplicit) (hst : notStar e = true) (ha : SdR p e cr) : SdE p (.Call (.Name "sum" q) [e] [] pos) (.agg .sum cr) :=
  sd_agg (r := rSumA) (fun X C g => cr_sumA g.calm) hb hg (by decide +kernel) (by decide) (by decide) hst (fun K μ H S x v Q hs rv h => by
    obtain ⟨ds, e1, h⟩ := Po.may (show Po K μ H (may (sqOf S x) fun ds => may (intsOf ds) fun ns => Res.ok (D.int ns.sum) S) _ from h)
    obtain ⟨ns, e2, h⟩ := h.may
    obtain ⟨a, vs, rfl, h1, h2, _⟩ := sq_rv hs rv e1
    refine ⟨a, ns, rfl, ?_, h.at hs _ rfl⟩
    rw [← rp_ints h2 e2]
    exact sq_or h1) ha
theorem sd_max (hb : ("max" : Str) ∈ p.B) (hg : p.sc.names.lookup ("max" : Str) = some .globalImplicit) (hst : notStar e = true) (ha : SdR p e cr) : SdE p (.Call (.Name "max" q) [e] [] pos) (.agg .max cr) :=
  sd_agg (r := fun K => rMax K.k) (fun X C g => cr_max g.calm) hb hg (by decide +kernel) (by decide) (by decide) hst (fun K μ H S x v Q hs rv h => by
    obtain ⟨ds, e1, h⟩ := Po.may (show Po K μ H (may (lsOf S x) fun ds => may (intsOf ds) fun ns => may (greatest ns) fun m => Res.ok (D.int m) S) _ from h)
    obtain ⟨ns, e2, h⟩ := h.may
    obtain ⟨m, e3, h⟩ := h.may
    obtain ⟨a, vs, rfl, h1, h2, _⟩ := ls_rv hs rv e1
    obtain ⟨g1, g2⟩ := greatest_spec e3
    refine ⟨a, ns, rfl, by rw [← rp_ints h2 e2]; exact h1, List.length_pos_of_mem g1, fun k k1 k2 => ?_⟩
    have : k = m := Int.le_antisymm (g2 k k1) (k2 m g1)
    rw [this]
    exact h.at hs _ rfl) ha
/-! ### min of data -/
mutual
theorem toPW_mono {f : Nat → Option PyData} : ∀ (d : D) (p : PyData), toPW (fun _ => none) d = some p → toPW f d = some p
  | .non, _, h => h
  | .bl _, _, h => h
  | .int _, _, h => h
  | .str _, _, h => h
  | .tup ds, p, h => by
    rw [toPW] at h ⊢
    obtain ⟨ps, h1, h2⟩ := Option.map_eq_some_iff.mp h
    rw [toPsW_mono ds ps h1, ← h2]
    rfl
  | .fix ds, p, h => by
    rw [toPW] at h ⊢
    obtain ⟨ps, h1, h2⟩ := Option.map_eq_some_iff.mp h
    rw [toPsW_mono ds ps h1, ← h2]
    rfl
  | .ref _, _, h => nomatch h
theorem toPsW_mono {f : Nat → Option PyData} : ∀ (ds : List D) (ps : List PyData), toPsW (fun _ => none) ds = some ps → toPsW f ds = some ps
  | [], _, h => h
  | d :: ds, ps, h => by
    rw [toPsW] at h ⊢
    cases e1 : toPW (fun _ => none) d with
    | none => rw [e1] at h; cases h
    | some q =>
      cases e2 : toPsW (fun _ => none) ds with
      | none => rw [e1, e2] at h; cases h
      | some qs =>
        rw [e1, e2] at h
        rw [toPW_mono d q e1, toPsW_mono ds qs e2]
        exact h
end
mutual
theorem toPW_inj : ∀ (d d' : D) (p : PyData), toPW (fun _ => none) d = some p → toPW (fun _ => none) d' = some p → d = d'
  | .non, d', p, h, h' => by
    cases h
    cases d' <;> simp [toPW] at h' <;> rfl
  | .bl _, d', p, h, h' => by
    cases h
    cases d' <;> simp [toPW] at h' <;> rw [h']
  | .int _, d', p, h, h' => by
    cases h
    cases d' <;> simp [toPW] at h' <;> rw [h']
  | .str _, d', p, h, h' => by
    cases h
    cases d' <;> simp [toPW] at h' <;> rw [h']
  | .tup ds, d', p, h, h' => by
    rw [toPW] at h
    obtain ⟨ps, h1, h2⟩ := Option.map_eq_some_iff.mp h
    subst h2
    cases d' with
    | tup es =>
      rw [toPW] at h'
      obtain ⟨qs, g1, g2⟩ := Option.map_eq_some_iff.mp h'
      injection g2 with g2
      subst g2
      rw [toPsW_inj ds es qs h1 g1]
    | fix es =>
      rw [toPW] at h'
      obtain ⟨qs, g1, g2⟩ := Option.map_eq_some_iff.mp h'
      cases g2
    | _ => simp [toPW] at h'
  | .fix ds, d', p, h, h' => by
    rw [toPW] at h
    obtain ⟨ps, h1, h2⟩ := Option.map_eq_some_iff.mp h
    subst h2
    cases d' with
    | fix es =>
      rw [toPW] at h'
      obtain ⟨qs, g1, g2⟩ := Option.map_eq_some_iff.mp h'
      injection g2 with g2
      subst g2
      rw [toPsW_inj ds es qs h1 g1]
    | tup es =>
      rw [toPW] at h'
      obtain ⟨qs, g1, g2⟩ := Option.map_eq_some_iff.mp h'
      cases g2
    | _ => simp [toPW] at h'
  | .ref _, _, _, h, _ => nomatch h
theorem toPsW_inj : ∀ (ds es : List D) (ps : List PyData), toPsW (fun _ => none) ds = some ps → toPsW (fun _ => none) es = some ps → ds = es
  | [], es, ps, h, h' => by
    cases h
    cases es with
    | nil => rfl
    | cons e es =>
      rw [toPsW] at h'
      cases e1 : toPW (fun _ => none) e with
      | none => rw [e1] at h'; cases h'
      | some q =>
        cases e2 : toPsW (fun _ => none) es with
        | none => rw [e1, e2] at h'; cases h'
        | some qs => rw [e1, e2] at h'; cases h'
  | d :: ds, es, ps, h, h' => by
    rw [toPsW] at h
    cases e1 : toPW (fun _ => none) d with
    | none => rw [e1] at h; cases h
    | some q =>
      cases e2 : toPsW (fun _ => none) ds with
      | none => rw [e1, e2] at h; cases h
      | some qs =>
        rw [e1, e2] at h
        cases h
        cases es with
        | nil => cases h'
        | cons e es =>
          rw [toPsW] at h'
          cases f1 : toPW (fun _ => none) e with
          | none => rw [f1] at h'; cases h'
          | some q' =>
            cases f2 : toPsW (fun _ => none) es with
            | none => rw [f1, f2] at h'; cases h'
            | some qs' =>
              rw [f1, f2] at h'
              injection h' with h'
              injection h' with g1 g2
              subst g1 g2
              rw [toPW_inj d e _ e1 f1, toPsW_inj ds es _ e2 f2]
end
theorem toPsW_at : ∀ {ds : List D} {ps : List PyData}, toPsW (fun _ => none) ds = some ps → ps = ds.map pOf ∧ ∀ d ∈ ds, toPW (fun _ => none) d = some (pOf d)
  | [], _, h => by cases h; exact ⟨rfl, fun d hd => by simp at hd⟩
  | d :: ds, ps, h => by
    rw [toPsW] at h
    cases e1 : toPW (fun _ => none) d with
    | none => rw [e1] at h; cases h
    | some q =>
      cases e2 : toPsW (fun _ => none) ds with
      | none => rw [e1, e2] at h; cases h
      | some qs =>
        rw [e1, e2] at h
        cases h
        obtain ⟨g1, g2⟩ := toPsW_at e2
        have e3 : pOf d = q := by unfold pOf; rw [e1]; rfl
        refine ⟨by rw [List.map_cons, e3, g1], fun x hx => ?_⟩
        rcases List.mem_cons.mp hx with rfl | hx
        · rw [e1, e3]
        · exact g2 x hx
theorem minDD_p : ∀ (ds : List D) (d : D), pOf (minDD d ds) = PySem.W.minD (pOf d) (ds.map pOf) ∧ minDD d ds ∈ d :: ds
  | [], d => ⟨rfl, List.mem_cons_self⟩
  | y :: ds, d => by
    have e : minDD d (y :: ds) = minDD (if PySem.W.dataLt (pOf y) (pOf d) then y else d) ds := rfl
    have e2 : PySem.W.minD (pOf d) ((y :: ds).map pOf) = PySem.W.minD (if PySem.W.dataLt (pOf y) (pOf d) then pOf y else pOf d) (ds.map pOf) := rfl
    rw [e, e2]
    obtain ⟨h1, h2⟩ := minDD_p ds (if PySem.W.dataLt (pOf y) (pOf d) then y else d)
    refine ⟨by rw [h1]; split <;> rfl, ?_⟩
    rcases List.mem_cons.mp h2 with h2 | h2
    · rw [h2]
      split <;> simp
    · simp [h2]
theorem RpA.nth {K : Fg} {μ : List Addr} {H : Hp} : ∀ {ds : List D} {vs : List V}, RpA K μ H ds vs → ∀ (i : Nat) (x : V), vs[i]? = some x → ∃ d, ds[i]? = some d ∧ Rp K μ H d x
  | [], vs, r, i, x, e => by rw [show vs = [] from r] at e; simp at e
  | d :: ds, vs, r, i, x, e => by
    obtain ⟨v, vs', rfl, h1, h2⟩ := r
    cases i with
    | zero => cases e; exact ⟨d, rfl, h1⟩
    | succ i => exact RpA.nth h2 i x e
section
variable {X : Cx}
theorem dp_readsAll {pins : List (Addr × Obj)} {σ : L2.St} {H : Hp} {s : Shared} (I : L2.Inv X pins σ H s) : ∀ {xs : List V} {ps : List PyData} {its : List Value}, DpAll (fgX X) H xs ps → Vals xs its → ∃ as, ReadsAll s.heap its ps as
  | [], _, _, h, r => by cases h; cases r; exact ⟨[], .nil⟩
  | x :: xs, _, _, h, r => by
    cases h with
    | cons h1 h2 => cases r with
      | cons r1 r2 =>
        obtain ⟨as, q1⟩ := Dp.reads I _ _ _ h1 r1
        obtain ⟨bs, q2⟩ := dp_readsAll I h2 r2
        exact ⟨_, .cons q1 q2⟩
theorem dp_nth {pins : List (Addr × Obj)} {σ : L2.St} {H : Hp} {s : Shared} (I : L2.Inv X pins σ H s) : ∀ {xs : List V} {ps : List PyData} {its : List Value}, DpAll (fgX X) H xs ps → Vals xs its → ∀ (i : Nat) (v : Value), its[i]? = some v → ∃ x p as, xs[i]? = some x ∧ ps[i]? = some p ∧ RelV x v ∧ Reads s.heap v p as
  | [], _, _, h, r, i, v, e => by cases h; cases r; simp at e
  | x :: xs, _, _, h, r, i, v, e => by
    cases h with
    | cons h1 h2 => cases r with
      | cons r1 r2 =>
        cases i with
        | zero =>
          obtain ⟨as, q1⟩ := Dp.reads I _ _ _ h1 r1
          have e : _ = v := Option.some.inj e
          subst e
          exact ⟨x, _, as, rfl, rfl, r1, q1⟩
        | succ i => exact dp_nth I h2 r2 i v e
/-- min(xs), of data -/
def rMinA (K : Fg) : List V → Hp → VK → Prop := fun vs H Q => ∃ (a : Addr) (xs : List V) (p : PyData) (ps : List PyData), vs = [V.ref a] ∧ SqL K H a xs ∧ DpAll K H xs (p :: ps) ∧ PySem.W.AlikeAll (p :: ps) ∧ PyData.depthAll (p :: ps) ≤ 64 ∧ (∀ q ∈ p :: ps, q.canLay0 = true) ∧
  ∀ (i : Nat) (x : V), xs[i]? = some x → (p :: ps)[i]? = some (PySem.W.minD p ps) → Q x H
theorem cr_minA (hcalm : X.calm = true) (hu : X.A.units + 70 < cLine) : CallR X (.builtin "min") (rMinA (fgX X)) := by
  intro pins s σ H vs us Q I r h
  obtain ⟨a, xs, p, ps, rfl, hs, hp, hal, hdp, hlay, q⟩ := h
  obtain ⟨its, rv, hl, _⟩ := I.list hs
  rw [Vals.ref1 r]
  obtain ⟨as, ra⟩ := dp_readsAll I hp rv
  refine PySem.W.min_list_data (vs := its.toArray) (I.ok.hd hcalm) hl.isList (by simpa using ra) hal (by omega) fun i v h' tk bs hv rd k => ?_
  have hv : its[i]? = some v := by simpa using hv
  obtain ⟨x, pi, cs, hx, hpi, rel, r1⟩ := dp_nth I hp rv i v hv
  have e := SeqAt.Reads.unique pi (PySem.W.minD p ps) v cs bs (hlay pi (List.mem_of_getElem? hpi)) (Reads.keeps k r1) rd
  subst e
  exact ⟨x, H, I.kept k, rel, q i x hx hpi⟩
end
theorem sd_min (hb : ("min" : Str) ∈ p.B) (hg : p.sc.names.lookup ("min" : Str) = some .globalImplicit) (hst : notStar e = true) (ha : SdR p e cr) : SdE p (.Call (.Name "min" q) [e] [] pos) (.agg .min cr) :=
  sd_agg (r := fun K vs H Q => rMin K vs H Q ∨ rMinA K vs H Q) (fun X C g => by
    intro pins s σ H vs us Q I r h
    rcases h with h | h
    · exact cr_min g.calm _ _ _ _ _ _ _ I r h
    · exact cr_minA g.calm (by have := g.un; omega) _ _ _ _ _ _ _ I r h) hb hg (by decide +kernel) (by decide) (by decide) hst (fun K μ H S x v Q hs rv h => by
    obtain ⟨ds, e1, h⟩ := Po.may (show Po K μ H (may (lsOf S x) fun ds => match intsOf ds with
      | some ns => may (least ns) fun m => Res.ok (D.int m) S
      | none => minRow S ds) _ from h)
    obtain ⟨a, vs, rfl, h1, h2, _⟩ := ls_rv hs rv e1
    cases e2 : intsOf ds with
    | some ns =>
      rw [e2] at h
      obtain ⟨m, e3, h⟩ := h.may
      obtain ⟨g1, g2⟩ := least_spec e3
      refine .inl ⟨a, ns, rfl, by rw [← rp_ints h2 e2]; exact h1, List.length_pos_of_mem g1, fun k k1 k2 => ?_⟩
      have : k = m := Int.le_antisymm (k2 m g1) (g2 k k1)
      rw [this]
      exact h.at hs _ rfl
    | none =>
      rw [e2] at h
      cases ds with
      | nil => exact h.elim
      | cons d ds =>
        have h : Po K μ H (match toPsW (fun _ => none) (d :: ds) with
          | some ps => PQ.ask (PySem.W.AlikeAll ps ∧ PyData.depthAll ps ≤ 64 ∧ ∀ q ∈ ps, q.canLay0 = true) (.ok (minDD d ds) S)
          | none => .bad) _ := h
        cases e3 : toPsW (fun _ => none) (d :: ds) with
        | none => rw [e3] at h; exact h.elim
        | some ps =>
          rw [e3] at h
          obtain ⟨⟨z1, z2, z3⟩, k2⟩ := Po.ask h
          clear h
          obtain ⟨f1, f2⟩ := toPsW_at e3
          rw [List.map_cons] at f1
          subst f1
          refine .inr ⟨a, vs, pOf d, ds.map pOf, rfl, h1, toPs_dp hs h2 (toPsW_mono _ _ e3), z1, z2, z3, fun i x hx hi => ?_⟩
          obtain ⟨di, g1, g2⟩ := h2.nth i x hx
          obtain ⟨m1, m2⟩ := minDD_p ds d
          have hpi : pOf di = PySem.W.minD (pOf d) (ds.map pOf) := by
            have : ((d :: ds).map pOf)[i]? = some (pOf di) := by rw [List.getElem?_map, g1]; rfl
            rw [List.map_cons, hi] at this
            exact (Option.some.inj this).symm
          have ed : di = minDD d ds := by
            refine toPW_inj _ _ (pOf di) (f2 di (List.mem_of_getElem? g1)) ?_
            rw [hpi, ← m1]
            exact f2 _ m2
          rw [← ed] at k2
          exact k2.at hs x g2) ha
theorem sd_all (hb : ("all" : Str) ∈ p.B) (hg : p.sc.names.lookup ("all" : Str) = some .globalImplicit) (hst : notStar e = true) (ha : SdR p e cr) : SdE p (.Call (.Name "all" q) [e] [] pos) (.agg .all cr) :=
  sd_agg (r := fun K => rAll K.k) (fun X C g => cr_all g.calm) hb hg (by decide +kernel) (by decide) (by decide) hst (fun K μ H S x v Q hs rv h => by
    obtain ⟨ds, e1, h⟩ := Po.may (show Po K μ H (may (lsOf S x) fun ds => may (boolsOf ds) fun bs => Res.ok (D.bl (bs.all id)) S) _ from h)
    obtain ⟨ns, e2, h⟩ := h.may
    obtain ⟨a, vs, rfl, h1, h2, _⟩ := ls_rv hs rv e1
    exact ⟨a, ns, rfl, by rw [← rp_bools h2 e2]; exact h1, h.at hs _ rfl⟩) ha
theorem sd_any (hb : ("any" : Str) ∈ p.B) (hg : p.sc.names.lookup ("any" : Str) = some .globalImplicit) (hst : notStar e = true) (ha : SdR p e cr) : SdE p (.Call (.Name "any" q) [e] [] pos) (.agg .any cr) :=
  sd_agg (r := fun K => rAny K.k) (fun X C g => cr_any g.calm) hb hg (by decide +kernel) (by decide) (by decide) hst (fun K μ H S x v Q hs rv h => by
    obtain ⟨ds, e1, h⟩ := Po.may (show Po K μ H (may (lsOf S x) fun ds => may (boolsOf ds) fun bs => Res.ok (D.bl (bs.any id)) S) _ from h)
    obtain ⟨ns, e2, h⟩ := h.may
    obtain ⟨a, vs, rfl, h1, h2, _⟩ := ls_rv hs rv e1
    exact ⟨a, ns, rfl, by rw [← rp_bools h2 e2]; exact h1, h.at hs _ rfl⟩) ha
/-- tuple(r), list(r) -/
theorem sd_tuple (hb : ("tuple" : Str) ∈ p.B) (hg : p.sc.names.lookup ("tuple" : Str) = some .globalImplicit) (hst : notStar e = true) (ha : SdR p e cr) : SdE p (.Call (.Name "tuple" q) [e] [] pos) (.agg .tuple cr) := fun X C g =>
  (pe_callTy call_tupleN (gl_of g hg) (g.blt _ hb) (by decide +kernel) (pa_cons (ha X C g) pa_nil (star_cons hst [] _)) (by decide) (by decide) (star_cons hst [] _) rfl).pq fun σ H Q h => tCB_R (g := aggD .tuple) (fun μ H S x v hs rv h => by
    obtain ⟨ds, e1, h⟩ := Po.may (show Po (fgX X) μ H (may (sqOf S x) fun ds => Res.ok (D.tup ds) S) _ from h)
    obtain ⟨a, vs, rfl, h1, h2, h3⟩ := sq_rv hs rv e1
    refine ⟨a, vs, rfl, ?_⟩
    rcases h1 with h1 | ⟨h1, e2⟩
    · exact .inl ⟨h1, fun l o hl c1 c2 => h μ _ (hs.fresh hl _) (hs.freshOk hl _) _ (rp_tup hs h3 h2 hl c1 c2)⟩
    · exact .inr ⟨h1.sq, h.at hs _ ⟨a, vs, rfl, h1, h2, h3⟩⟩) (by
    obtain ⟨μ, ρ, S, he, hs, h⟩ := h
    unfold evE at h
    exact ⟨μ, ρ, S, he, hs, h⟩)
/-- list(x): of a list, a tuple, a text -/
def rListS (K : Fg) (xs : List V) (H : Hp) (Q : V → Hp → Prop) : Prop := (∃ p ys, xs = [.ref p] ∧ (SqL K H p ys ∨ SqT K H p ys) ∧ ∀ l, H l = none → Q (.ref l) (upd H l (.lst ys))) ∨
  (∃ z : Str, xs = [.str z] ∧ z.length ≤ sizeLine ∧ ∀ l, H l = none → Q (.ref l) (upd H l (.lst (z.cps.toList.map fun c => V.str ⟨#[c]⟩))))
theorem call_list_ofS {X : Cx} (hc : X.calm = true) : CallR X (.type "list") (rListS (fgX X)) := by
  intro pins s σ H xs us Q I r h
  rcases h with h | h
  · exact call_list_of pins s σ H xs us Q I r h
  · obtain ⟨z, rfl, hz, q⟩ := h
    obtain ⟨u, rfl, rx⟩ := vals1 r
    obtain ⟨t, rfl⟩ := rx
    refine PySem.call_list_str (I.ok.hd hc) z t (fun h' tk acc c' hk e hi => ?_) hz
    have zl : z.cps.toList.length = z.cps.size := Array.length_toList
    refine ⟨.ref s.heap.objs.size, upd H s.heap.objs.size (.lst (z.cps.toList.map fun c => V.str ⟨#[c]⟩)), I.laid hk (Nat.le_refl _) ⟨by rw [List.length_map, zl]; exact hz, acc.toList, c', ?_, by rw [Array.toArray_toList]; exact e⟩, rfl, q _ (I.hok.fresh (Nat.le_refl _))⟩
    refine vals_of_idx _ _ (by rw [List.length_map, zl, Array.length_toList]; exact hi.1) fun j u hj => ?_
    obtain ⟨c, t', hc, rfl⟩ := hi.2 j u (by rw [← Array.getElem?_toList]; exact hj)
    exact ⟨.str ⟨#[c]⟩, by simp [hc], ⟨_, rfl⟩⟩
theorem letters_rp {K : Fg} {μ : List Addr} {H : Hp} (l : List Nat) : RpA K μ H (l.map fun c => D.str ⟨#[c]⟩) (l.map fun c => V.str ⟨#[c]⟩) := by
  induction l with
  | nil => exact rfl
  | cons k l ih => exact .cons rfl ih
theorem sq_list (hb : ("list" : Str) ∈ p.B) (hg : p.sc.names.lookup ("list" : Str) = some .globalImplicit) (hst : notStar e = true) (ha : SdR p e cr) : SdQ p (.Call (.Name "list" q) [e] [] pos) (.list cr) := fun X C g =>
  (pe_callTy (call_list_ofS g.calm) (gl_of g hg) (g.blt _ hb) (by decide +kernel) (pa_cons (ha X C g) pa_nil (star_cons hst [] _)) (by decide) (by decide) (star_cons hst [] _) rfl).pq fun σ H Q ⟨μ, ρ, S, he, hs, h⟩ => by
    unfold evQ at h
    refine ⟨μ, ρ, S, he, hs, h.bind.imp fun x S1 μ1 H1 _ e1 s1 h1 v rv => ?_⟩
    obtain ⟨ds, eds, h1⟩ := h1.may
    by_cases ht : ∃ z, x = .val (.str z)
    · obtain ⟨z, rfl⟩ := ht
      have rv' : v = .str z := rv
      subst rv'
      have eds' : (if z.length ≤ sizeLine then some (lettersD z) else none) = some ds := eds
      by_cases hz : z.length ≤ sizeLine
      · rw [if_pos hz, Option.some.injEq] at eds'
        subst eds'
        refine .inr ⟨z, rfl, hz, fun l hl => ?_⟩
        have r0 : RpA (fgX X) μ1 H1 (lettersD z) (z.cps.toList.map fun c => V.str ⟨#[c]⟩) := letters_rp _
        refine h1 μ1 _ (s1.fresh hl _) (s1.freshOk hl _) l _ (e1.alive _ hl) upd_same (fun m => ?_) (r0.mono (s1.fresh hl _)) (by unfold lettersD; rw [List.length_map, Array.length_toList]; exact hz)
        obtain ⟨w, ew, _⟩ := s1.mem m
        rw [hl] at ew; cases ew
      · rw [if_neg hz] at eds'
        cases eds'
    · have eds' : sqOf S1 x = some ds := by
        cases x with
        | own es => exact eds
        | val d => cases d <;> first | exact eds | exact absurd ⟨_, rfl⟩ ht
      obtain ⟨a, vs, rfl, h2, h3, h4⟩ := sq_rv s1 rv eds'
      refine .inl ⟨a, vs, rfl, sq_or h2, fun l hl => ?_⟩
      refine h1 μ1 _ (s1.fresh hl _) (s1.freshOk hl _) l _ (e1.alive _ hl) upd_same (fun m => ?_) (h3.mono (s1.fresh hl _)) h4
      obtain ⟨w, ew, _⟩ := s1.mem m
      rw [hl] at ew; cases ew
end
end
end PQ

/-! More built-ins, methods of lists, isinstance. -/
namespace PQ
open PySem PySem.Spec PyProof.Rows L2
section
variable {p : Pl} {a b c e : Expr} {ca cb cc : CE} {cr : CR} {pos q : Pos}
/-- T(e), T a built-in type; f(e), f(e, e') built-in functions -/
theorem sd_ty1 {f : F1} {x : Str} {T : String} {r : Fg → List V → Hp → VK → Prop} (hc : ∀ X C, Good X p C → CallR X (.type T) (r (fgX X))) (hb : x ∈ p.B) (hg : p.sc.names.lookup x = some .globalImplicit) (hv : bootBuiltins x = some (.type T)) (hn : x ≠ "__name__") (hdb : (x == ("__debug__" : Str)) = false) (hst : notStar e = true)
    (ho : ∀ (K : Fg) (μ : List Addr) (H : Hp) (S : Sto) (x : D) (v : V) (Q : VK), StOk K μ H S → Rp K μ H x v → Po K μ H (fn1D f x S) (fun d _ μ' H' => ∀ v, Rp K μ' H' d v → Q v H') → r K [v] H Q) (ha : SdE p e ca) :
    SdE p (.Call (.Name x q) [e] [] pos) (.fn1 f ca) := fun X C g =>
  (pe_callTy (hc X C g) (gl_of g hg) (g.blt x hb) hv (pa_cons (ha X C g) pa_nil (star_cons hst [] _)) hn hdb (star_cons hst [] _) rfl).pq fun σ H Q h => tCB_E (fun μ H S x v => ho (fgX X) μ H S x v Q) (by
    obtain ⟨μ, ρ, S, he, hs, h⟩ := h
    unfold evE at h
    exact ⟨μ, ρ, S, he, hs, h⟩)
theorem sd_fun1 {f : F1} {x : Str} {T : String} {r : Fg → List V → Hp → VK → Prop} (hc : ∀ X C, Good X p C → CallR X (.builtin T) (r (fgX X))) (hb : x ∈ p.B) (hg : p.sc.names.lookup x = some .globalImplicit) (hv : bootBuiltins x = some (.builtin T)) (hn : x ≠ "__name__") (hdb : (x == ("__debug__" : Str)) = false) (hst : notStar e = true)
    (ho : ∀ (K : Fg) (μ : List Addr) (H : Hp) (S : Sto) (x : D) (v : V) (Q : VK), StOk K μ H S → Rp K μ H x v → Po K μ H (fn1D f x S) (fun d _ μ' H' => ∀ v, Rp K μ' H' d v → Q v H') → r K [v] H Q) (ha : SdE p e ca) :
    SdE p (.Call (.Name x q) [e] [] pos) (.fn1 f ca) := fun X C g =>
  (pe_callB (hc X C g) (gl_of g hg) (g.blt x hb) hv (pa_cons (ha X C g) pa_nil (star_cons hst [] _)) hn hdb (star_cons hst [] _) rfl).pq fun σ H Q h => tCB_E (fun μ H S x v => ho (fgX X) μ H S x v Q) (by
    obtain ⟨μ, ρ, S, he, hs, h⟩ := h
    unfold evE at h
    exact ⟨μ, ρ, S, he, hs, h⟩)
theorem sd_fun2 {f : F2} {x : Str} {T : String} {r : Fg → List V → Hp → VK → Prop} (hc : ∀ X C, Good X p C → CallR X (.builtin T) (r (fgX X))) (hb : x ∈ p.B) (hg : p.sc.names.lookup x = some .globalImplicit) (hv : bootBuiltins x = some (.builtin T)) (hn : x ≠ "__name__") (hdb : (x == ("__debug__" : Str)) = false) (hst : notStar a = true) (hst2 : notStar b = true)
    (ho : ∀ (K : Fg) (μ : List Addr) (H : Hp) (S : Sto) (x y : D) (v u : V) (Q : VK), StOk K μ H S → Rp K μ H x v → Rp K μ H y u → Po K μ H (fn2D f x y S) (fun d _ μ' H' => ∀ v, Rp K μ' H' d v → Q v H') → r K [v, u] H Q) (ha : SdE p a ca) (hb' : SdE p b cb) :
    SdE p (.Call (.Name x q) [a, b] [] pos) (.fn2 f ca cb) := fun X C g =>
  (pe_callB (hc X C g) (gl_of g hg) (g.blt x hb) hv (pa_cons (ha X C g) (pa_cons (hb' X C g) pa_nil (star_cons hst2 [] _)) (star_cons hst [b] _)) hn hdb (star_cons hst [b] _) (star_any _ _ (by rw [List.all_cons, hst2]; rfl))).pq fun σ H Q h => tCB_EE (fun μ H S x y v u => ho (fgX X) μ H S x y v u Q) (by
    obtain ⟨μ, ρ, S, he, hs, h⟩ := h
    unfold evE at h
    exact ⟨μ, ρ, S, he, hs, h⟩)
theorem sd_intT (hb : ("int" : Str) ∈ p.B) (hg : p.sc.names.lookup ("int" : Str) = some .globalImplicit) (hst : notStar e = true) (ha : SdE p e ca) : SdE p (.Call (.Name "int" q) [e] [] pos) (.fn1 .int ca) :=
  sd_ty1 (r := fun _ xs H Q => (∃ i, xs = [.int i] ∧ Q (.int i) H) ∨ ∃ k, xs = [.bl k] ∧ Q (.int (if k then 1 else 0)) H) (fun X C g => call_int1) hb hg (by decide +kernel) (by decide) (by decide) hst (fun K μ H S x v Q hs rv h => by
    cases x with
    | int i => cases rv; exact .inl ⟨i, rfl, Po.at (show Po K μ H (Res.ok (D.int i) S) _ from h) hs _ rfl⟩
    | bl k => cases rv; exact .inr ⟨k, rfl, Po.at (show Po K μ H (Res.ok (D.int (if k then 1 else 0)) S) _ from h) hs _ rfl⟩
    | _ => exact (show False from h).elim) ha
theorem sd_strT (hb : ("str" : Str) ∈ p.B) (hg : p.sc.names.lookup ("str" : Str) = some .globalImplicit) (hst : notStar e = true) (ha : SdE p e ca) : SdE p (.Call (.Name "str" q) [e] [] pos) (.fn1 .str ca) :=
  sd_ty1 (r := fun _ xs H Q => ∃ i, xs = [.int i] ∧ i.natAbs.log2 < 1920 ∧ Q (.str (toString i)) H) (fun X C g => call_str_int) hb hg (by decide +kernel) (by decide) (by decide) hst (fun K μ H S x v Q hs rv h => by
    cases x with
    | int i =>
      cases rv
      obtain ⟨z, h⟩ := Po.ite (show Po K μ H (if i.natAbs.log2 < 1920 then Res.ok (D.str (toString i)) S else Res.bad) _ from h)
      exact ⟨i, rfl, z, Po.at h hs _ rfl⟩
    | _ => exact (show False from h).elim) ha
theorem sd_abs (hb : ("abs" : Str) ∈ p.B) (hg : p.sc.names.lookup ("abs" : Str) = some .globalImplicit) (hst : notStar e = true) (ha : SdE p e ca) : SdE p (.Call (.Name "abs" q) [e] [] pos) (.fn1 .abs ca) :=
  sd_fun1 (r := fun _ xs H Q => ∃ i, xs = [.int i] ∧ Q (.int (if i < 0 then -i else i)) H) (fun X C g => call_abs) hb hg (by decide +kernel) (by decide) (by decide) hst (fun K μ H S x v Q hs rv h => by
    cases x with
    | int i => cases rv; exact ⟨i, rfl, Po.at (show Po K μ H (Res.ok (D.int (if i < 0 then -i else i)) S) _ from h) hs _ rfl⟩
    | _ => exact (show False from h).elim) ha
/-- repr(data) -/
theorem call_reprD {X : Cx} {C : Orc} (g : Good X p C) : CallR X (.builtin "repr") (fun xs H Q => ∃ v d, xs = [v] ∧ Dp (fgX X) H v d ∧ d.showable = true ∧ d.hasDict = false ∧ d.shown.length ≤ sizeLine ∧ d.depth ≤ 1000 ∧ Q (.str d.shown) H) := by
  intro pins s σ H xs us Q I r h
  obtain ⟨v, d, rfl, hd, h1, h2, h3, h4, q⟩ := h
  obtain ⟨u, rfl, ru⟩ := vals1 r
  have hu := g.un
  cases hd with
  | non =>
    obtain rfl : u = Value.none := ru
    exact PySem.P.repr_of_none ⟨.str _, H, I.tok _, ⟨_, rfl⟩, by simpa [PyData.shown] using q⟩
  | bl b =>
    obtain rfl : u = Value.bool b := ru
    exact PySem.P.repr_of_bool ⟨.str _, H, I.tok _, ⟨_, rfl⟩, by simpa [PyData.shown] using q⟩
  | int i =>
    obtain ⟨t, rfl⟩ := ru
    exact PySem.P.repr_of_int (by simpa [PyData.showable] using h1) ⟨.str _, H, I.tok _, ⟨_, rfl⟩, by simpa [PyData.shown] using q⟩
  | str x =>
    obtain ⟨t, rfl⟩ := ru
    exact PySem.P.repr_of_str ⟨.str _, H, I.tok _, ⟨_, rfl⟩, by simpa [PyData.shown] using q⟩ (by simpa [PyData.shown] using h3)
  | @lst a xs ds e1 e2 =>
    obtain rfl : u = Value.ref a := ru
    obtain ⟨as, rd⟩ := Dp.reads I _ _ _ (.lst e1 e2) (show RelV (.ref a) (.ref a) from rfl)
    exact repr_of_reads' rd h1 (PyData.noDict_hsm h2) g.gu (by omega) (fun _ _ e => e) (fun h' u' tk hk => ⟨.str _, H, I.kept (h' := h') (t' := tk) hk, ⟨_, rfl⟩, q⟩) h3
  | @tup a xs ds e1 e2 =>
    obtain rfl : u = Value.ref a := ru
    obtain ⟨as, rd⟩ := Dp.reads I _ _ _ (.tup e1 e2) (show RelV (.ref a) (.ref a) from rfl)
    exact repr_of_reads' rd h1 (PyData.noDict_hsm h2) g.gu (by omega) (fun _ _ e => e) (fun h' u' tk hk => ⟨.str _, H, I.kept (h' := h') (t' := tk) hk, ⟨_, rfl⟩, q⟩) h3
theorem sd_repr (hb : ("repr" : Str) ∈ p.B) (hg : p.sc.names.lookup ("repr" : Str) = some .globalImplicit) (hst : notStar e = true) (ha : SdE p e ca) : SdE p (.Call (.Name "repr" q) [e] [] pos) (.fn1 .repr ca) :=
  sd_fun1 (r := fun K xs H Q => ∃ v d, xs = [v] ∧ Dp K H v d ∧ d.showable = true ∧ d.hasDict = false ∧ d.shown.length ≤ sizeLine ∧ d.depth ≤ 1000 ∧ Q (.str d.shown) H) (fun X C g => call_reprD g) hb hg (by decide +kernel) (by decide) (by decide) hst (fun K μ H S x v Q hs rv h => by
    have h : Po K μ H (may (toP S x) fun p => if p.showable = true ∧ p.hasDict = false ∧ p.shown.length ≤ sizeLine ∧ p.depth ≤ 1000 then .ok (.str p.shown) S else .bad) (fun d _ μ' H' => ∀ v, Rp K μ' H' d v → Q v H') := by
      cases x <;> exact h
    obtain ⟨d, ed, h⟩ := h.may
    obtain ⟨⟨h1, h2, h3, h4⟩, h⟩ := h.ite
    exact ⟨v, d, rfl, toP_dp hs rv ed, h1, h2, h3, h4, h.at hs _ rfl⟩) ha
theorem sd_min2 (hb : ("min" : Str) ∈ p.B) (hg : p.sc.names.lookup ("min" : Str) = some .globalImplicit) (hst : notStar a = true) (hst2 : notStar b = true) (ha : SdE p a ca) (hb' : SdE p b cb) : SdE p (.Call (.Name "min" q) [a, b] [] pos) (.fn2 .min ca cb) :=
  sd_fun2 (r := fun _ xs H Q => ∃ i j, xs = [.int i, .int j] ∧ Q (.int (if j < i then j else i)) H) (fun X C g => call_min2 g.calm) hb hg (by decide +kernel) (by decide) (by decide) hst hst2 (fun K μ H S x y v u Q hs rv ru h => by
    cases x <;> cases y <;> first | exact (show False from h).elim | (cases rv; cases ru; exact ⟨_, _, rfl, Po.at h hs _ rfl⟩)) ha hb'
theorem sd_max2 (hb : ("max" : Str) ∈ p.B) (hg : p.sc.names.lookup ("max" : Str) = some .globalImplicit) (hst : notStar a = true) (hst2 : notStar b = true) (ha : SdE p a ca) (hb' : SdE p b cb) : SdE p (.Call (.Name "max" q) [a, b] [] pos) (.fn2 .max ca cb) :=
  sd_fun2 (r := fun _ xs H Q => ∃ i j, xs = [.int i, .int j] ∧ Q (.int (if j > i then j else i)) H) (fun X C g => call_max2 g.calm) hb hg (by decide +kernel) (by decide) (by decide) hst hst2 (fun K μ H S x y v u Q hs rv ru h => by
    cases x <;> cases y <;> first | exact (show False from h).elim | (cases rv; cases ru; exact ⟨_, _, rfl, Po.at h hs _ rfl⟩)) ha hb'

theorem sd_gcd {x : Str} (hm : (x, Gv.fn "math.gcd") ∈ p.G) (hg : p.sc.names.lookup x = some .globalImplicit) (hdb : (x == ("__debug__" : Str)) = false) (hst : notStar a = true) (hst2 : notStar b = true) (ha : SdE p a ca) (hb' : SdE p b cb) : SdE p (.Call (.Name x q) [a, b] [] pos) (.fn2 .gcd ca cb) := fun X C g =>
  (pe_callBfun cr_gcd (gl_of g hg) (g.glb x _ hm) (pa_cons (ha X C g) (pa_cons (hb' X C g) pa_nil (star_cons hst2 [] _)) (star_cons hst [b] _)) hdb (star_cons hst [b] _) (star_any _ _ (by rw [List.all_cons, hst2]; rfl))).pq fun σ H Q h => tCB_EE (g := fn2D .gcd) (fun μ H S x y v u hs rv ru h => by
    cases x <;> cases y <;> first | exact (show False from h).elim | (cases rv; cases ru; exact ⟨_, _, rfl, Po.at h hs _ rfl⟩)) (by
    obtain ⟨μ, ρ, S, he, hs, h⟩ := h
    unfold evE at h
    exact ⟨μ, ρ, S, he, hs, h⟩)

/-! ### isinstance -/
def tyN : Ty → String
  | .int => "int" | .bool => "bool" | .str => "str" | .tuple => "tuple"
theorem sqt_ty {K : Fg} {H : Hp} {a : Addr} {xs : List V} (h : SqT K H a xs) : TyX K H (.ref a) (.type "tuple") := by
  rcases h with (h | ⟨o, h⟩) | ⟨o, its, n, hk, hc, _⟩
  · exact .base (.tup h)
  · exact .fTuple h
  · exact .kTuple hk hc
theorem fix_ty {K : Fg} {H : Hp} {a : Addr} {xs : List V} (h : Fix K H a xs) : TyX K H (.ref a) (.type "list") := by
  rcases h with ⟨o, h⟩ | ⟨o, its, n, hk, hc, _⟩
  · exact .base (.frz h)
  · exact .kList hk hc
theorem ty_rp {K : Fg} {μ : List Addr} {H : Hp} {S : Sto} {x : D} {v : V} {k : Bool} {t : Ty} (hs : StOk K μ H S) (r : Rp K μ H x v) (h : tyB t S x = some k) : ∃ n, TyX K H v (.type n) ∧ kitB n (tyN t) = some k := by
  cases x with
  | non => cases r; cases h; exact ⟨"NoneType", .base .non, by cases t <;> decide +kernel⟩
  | bl b => cases r; cases h; exact ⟨"bool", .base (.bl b), by cases t <;> decide +kernel⟩
  | int i => cases r; cases h; exact ⟨"int", .base (.int i), by cases t <;> decide +kernel⟩
  | str z => cases r; cases h; exact ⟨"str", .base (.str z), by cases t <;> decide +kernel⟩
  | tup ds =>
    obtain ⟨a, vs, rfl, h1, _⟩ := r
    cases h
    exact ⟨"tuple", sqt_ty h1.sq, by cases t <;> decide +kernel⟩
  | fix ds =>
    obtain ⟨a, vs, rfl, h1, _⟩ := r
    cases h
    exact ⟨"list", fix_ty h1, by cases t <;> decide +kernel⟩
  | ref i =>
    have h : (match S[i]? with
      | some (Ob.lst _) => some false
      | _ => none) = some k := h
    cases ei : S[i]? with
    | none => rw [ei] at h; cases h
    | some o =>
      rw [ei] at h
      cases o with
      | dic ks => first | (cases h; done) | exact (show False from h).elim
      | frd ks => first | (cases h; done) | exact (show False from h).elim
      | dkt ks => first | (cases h; done) | exact (show False from h).elim
      | lst ds =>
        obtain ⟨a, vs, rfl, _, h1, _⟩ := rp_ref r hs ei
        cases h
        exact ⟨"list", .base (.lst h1), by cases t <;> decide +kernel⟩
theorem sd_isi {t : Ty} {x : Str} {q2 : Pos} (hb : ("isinstance" : Str) ∈ p.B) (hg : p.sc.names.lookup ("isinstance" : Str) = some .globalImplicit) (hb2 : x ∈ p.B) (hg2 : p.sc.names.lookup x = some .globalImplicit) (hv : bootBuiltins x = some (.type (tyN t))) (hn : x ≠ "__name__") (hdb : (x == ("__debug__" : Str)) = false) (hst : notStar a = true) (ha : SdE p a ca) :
    SdE p (.Call (.Name "isinstance" q) [a, .Name x q2] [] pos) (.isi ca t) := fun X C g =>
  (pe_callB call_isi (gl_of g hg) (g.blt _ hb) (by decide +kernel) (pa_cons (ha X C g) (pa_cons (pe_bltn (v := .ty (tyN t)) (gl_of g hg2) (g.blt _ hb2) hv rfl hn hdb) pa_nil rfl) (star_cons hst _ _)) (by decide) (by decide) (star_cons hst _ _) rfl).pq fun σ H Q ⟨μ, ρ, S, he, hs, h⟩ => by
    unfold evE at h
    refine ⟨μ, ρ, S, he, hs, h.bind.imp fun y S1 μ1 H1 _ e1 s1 h1 v rv => ?_⟩
    obtain ⟨k, ek, h1⟩ := h1.may
    obtain ⟨n, ty, hk⟩ := ty_rp s1 rv ek
    exact ⟨v, .ty (tyN t), .type n, .type (tyN t), k, rfl, .ty _, ty, kit_ty hk, h1.at s1 _ rfl⟩

/-! ### methods of lists -/
section
variable {K : Fg} {μ : List Addr} {H : Hp} {S : Sto} {x : D} {v : V}
/-- a value that is a list of the store -/
theorem Po.withL {α : Type} {f : Nat → List D → Res α} {P : α → Sto → List Addr → Hp → Prop} (hs : StOk K μ H S) (r : Rp K μ H x v) (h : Po K μ H (withL S x f) P) : ∃ i ds a vs, x = .ref i ∧ v = .ref a ∧ S[i]? = some (.lst ds) ∧ μ[i]? = some a ∧ H a = some (.lst vs) ∧ RpA K μ H ds vs ∧ ds.length ≤ sizeLine ∧ Po K μ H (f i ds) P := by
  cases x with
  | ref i =>
    have h : Po K μ H (match S[i]? with
      | some (Ob.lst ds) => f i ds
      | _ => Res.bad) P := h
    cases ei : S[i]? with
    | none => rw [ei] at h; exact h.elim
    | some o =>
      rw [ei] at h
      cases o with
      | dic ks => first | (cases h; done) | exact (show False from h).elim
      | frd ks => first | (cases h; done) | exact (show False from h).elim
      | dkt ks => first | (cases h; done) | exact (show False from h).elim
      | lst ds =>
        obtain ⟨a, vs, e1, e2, h1, h2, h3⟩ := rp_ref r hs ei
        exact ⟨i, ds, a, vs, rfl, e1, ei, e2, h1, h2, h3, h⟩
  | _ => exact (show False from h).elim
theorem ty_lst {a : Addr} {vs : List V} (h : H a = some (.lst vs)) : tyV K "list" (.ref a) H := .inl ⟨rfl, _, .of h⟩
end
theorem few1 (cpos : Pos) (env : Env) (hst : notStar e = true) : ((backTo cpos (starEach [e] env)).all (fun x => !x.1) && (backToKw cpos (keywordEach [] env)).all (fun x => x.1.isSome)
      && decide ([e].length + ([] : List Keyword).length + (if ([] : List Keyword).isEmpty then 0 else 1) < 30)) = true := by
  rw [star_cons hst]
  rfl
theorem few2 (cpos : Pos) (env : Env) (hst : notStar a = true) (hst2 : notStar b = true) : ((backTo cpos (starEach [a, b] env)).all (fun x => !x.1) && (backToKw cpos (keywordEach [] env)).all (fun x => x.1.isSome)
      && decide ([a, b].length + ([] : List Keyword).length + (if ([] : List Keyword).isEmpty then 0 else 1) < 30)) = true := by
  rw [star_cons hst, star_cons hst2]
  rfl
/-- a method with one argument, a method without -/
theorem sd_bm1 {nm : Str} {id : String} {r : V → List V → Hp → VK → Prop} {ap : Pos} {f : D → D → Sto → Res D} {cx : CE} (slot : Slot "list" nm id) (hty : typeOf (.builtin id) = pure (.type "method_descriptor")) (hm : ∀ X : Cx, MtR X id r)
    (ho : ∀ (K : Fg) (μ : List Addr) (H : Hp) (S : Sto) (x y : D) (v u : V) (Q : VK), StOk K μ H S → Rp K μ H x v → Rp K μ H y u → Po K μ H (f x y S) (fun d _ μ' H' => ∀ v, Rp K μ' H' d v → Q v H') → r v [u] H Q)
    (hev : ∀ C ρ S, evE C cx ρ S = (evE C ca ρ S).bind fun o S1 => withL S1 o fun _ _ => (evE C cb ρ S1).bind fun v S2 => f o v S2)
    (hc : notCall a = true) (hl : (ap.endLine == pos.line) = true) (hst : notStar e = true) (ha : SdE p a ca) (hb : SdE p e cb) : SdE p (.Call (.Attribute a nm ap) [e] [] pos) cx := fun X C g =>
  (pe_bm PySem.F.plainAttrs_list slot hty (hm X) (ha X C g) (pa_cons (hb X C g) pa_nil (star_cons hst [] _)) (plain_base hc _ _ _) (few1 _ _ hst) hl (star_cons hst [] _) rfl).pq fun σ H Q ⟨μ, ρ, S, he, hs, h⟩ => by
    rw [hev] at h
    refine ⟨μ, ρ, S, he, hs, h.bind.imp fun x S1 μ1 H1 _ e1 s1 h1 v rv => ?_⟩
    obtain ⟨i, ds, a0, vs, rfl, rfl, ei, ea, k1, k2, k3, h1⟩ := h1.withL s1 rv
    refine ⟨ty_lst (K := fgX X) k1, μ1, ρ, S1, he.mono e1, s1, h1.bind.imp fun y S2 μ2 H2 _ e2 s2 h2 w rw_ => ?_⟩
    exact ho (fgX X) μ2 H2 S2 (.ref i) y _ w Q s2 (rv.mono e2) rw_ h2
theorem sd_app {ap : Pos} (hc : notCall a = true) (hl : (ap.endLine == pos.line) = true) (hst : notStar e = true) (ha : SdE p a ca) (hb : SdE p e cb) : SdE p (.Call (.Attribute a "append" ap) [e] [] pos) (.app ca cb) :=
  sd_bm1 (f := appD) PySem.F.slot_list_append PySem.F.type_list_append (fun X => mt_append) (fun K μ H S x y v u Q hs rx ry h => by
    obtain ⟨i, ds, a0, vs, rfl, rfl, ei, ea, k1, k2, k3, h⟩ := Po.withL hs rx h
    obtain ⟨hz, h⟩ := h.ite
    obtain ⟨x1, x2⟩ := hs.put ea k1 (k2.append (.cons ry .nil)) (by rw [List.length_append]; exact hz)
    exact ⟨a0, vs, u, rfl, rfl, k1, by rw [← k2.length]; exact hz, h _ _ x1 x2 _ rfl⟩) (fun C ρ S => by rw [evE]) hc hl hst ha hb
/-- l.insert(i, x) -/
theorem sd_ins {ap : Pos} {e2 : Expr} {cc : CE} (hc : notCall a = true) (hl : (ap.endLine == pos.line) = true) (hst : notStar e = true) (hst2 : notStar e2 = true) (ha : SdE p a ca) (hb : SdE p e cb) (hb2 : SdE p e2 cc) :
    SdE p (.Call (.Attribute a "insert" ap) [e, e2] [] pos) (.ins ca cb cc) := fun X C g =>
  (pe_bm (name := "insert") PySem.F.plainAttrs_list PySem.F.slot_list_insert PySem.F.type_list_insert mt_insert (ha X C g) (pa_cons (hb X C g) (pa_cons (hb2 X C g) pa_nil (star_cons hst2 [] _)) (star_cons hst [e2] _)) (plain_base hc _ _ _) (few2 _ _ hst hst2) hl (star_cons hst [e2] _) (star_any _ _ (by rw [List.all_cons, hst2]; rfl))).pq fun σ H Q ⟨μ, ρ, S, he, hs, h⟩ => by
    unfold evE at h
    refine ⟨μ, ρ, S, he, hs, h.bind.imp fun x S1 μ1 H1 _ e1 s1 h1 v rv => ?_⟩
    obtain ⟨i, ds, a0, vs, rfl, rfl, ei, ea, k1, k2, k3, h1⟩ := h1.withL s1 rv
    refine ⟨ty_lst (K := fgX X) k1, μ1, ρ, S1, he.mono e1, s1, h1.bind.imp fun y S2 μ2 H2 he2 e2 s2 h2 w rw_ => ?_⟩
    refine ⟨μ2, ρ, S2, (he.mono e1).mono e2, s2, h2.bind.imp fun z S3 μ3 H3 _ e3 s3 h3 u ru => ?_⟩
    have h3 : Po (fgX X) μ3 H3 (insD (.ref i) y z S3) _ := h3
    obtain ⟨i', es, a', us, e4, e5, ej, eb, l1, l2, l3, h3⟩ := Po.withL s3 ((rv.mono e2).mono e3) h3
    cases e4
    cases e5
    cases y with
    | int j =>
      obtain ⟨⟨z1, z2, z3⟩, h3⟩ := Po.ite (show Po (fgX X) μ3 H3 (if 0 ≤ j ∧ j < 2 ^ 63 ∧ es.length < sizeLine then Res.ok D.non (S3.set i (Ob.lst (es.take j.toNat ++ [z] ++ es.drop j.toNat))) else Res.bad) _ from h3)
      have hz : (es.take j.toNat ++ [z] ++ es.drop j.toNat).length ≤ sizeLine := by
        rw [List.length_append, List.length_append, List.length_take, List.length_drop, List.length_singleton]
        omega
      obtain ⟨x1, x2⟩ := s3.put eb l1 (((l2.take j.toNat).append (.cons ru .nil)).append (l2.drop j.toNat)) hz
      exact ⟨a0, us, j, u, rfl, by rw [show w = V.int j from (rw_.mono e3)], l1, by rw [← l2.length]; exact z3, z1, z2, h3 _ _ x1 x2 _ rfl⟩
    | _ => exact (show False from h3).elim
theorem sd_popAt {ap : Pos} (hc : notCall a = true) (hl : (ap.endLine == pos.line) = true) (hst : notStar e = true) (ha : SdE p a ca) (hb : SdE p e cb) : SdE p (.Call (.Attribute a "pop" ap) [e] [] pos) (.popAt ca cb) :=
  sd_bm1 (f := popAtD) PySem.F.slot_list_pop PySem.F.type_list_pop (fun X => mt_popAt) (fun K μ H S x y v u Q hs rx ry h => by
    obtain ⟨i, ds, a0, vs, rfl, rfl, ei, ea, k1, k2, k3, h⟩ := Po.withL hs rx h
    cases y with
    | int j =>
      obtain ⟨⟨hz1, hz2⟩, h⟩ := Po.ite (show Po K μ H (if -(2 ^ 63) ≤ j ∧ j < 2 ^ 63 then may (seqIndex? j ds.length) fun k => may ds[k]? fun d => Res.ok d (S.set i (Ob.lst (ds.eraseIdx k))) else Res.bad) _ from h)
      obtain ⟨k, ek, h⟩ := h.may
      obtain ⟨d, ed, h⟩ := h.may
      obtain ⟨w, ew, rw_⟩ := k2.get ed
      obtain ⟨x1, x2⟩ := hs.put ea k1 (k2.eraseIdx k) (Nat.le_trans (len_erase _ _) k3)
      exact ⟨a0, vs, j, k, w, rfl, by rw [show u = V.int j from ry], k1, hz1, hz2, by rw [← k2.length]; exact ek, ew, h _ _ x1 x2 _ (rw_.mono x1)⟩
    | _ => exact (show False from h).elim) (fun C ρ S => by rw [evE]) hc hl hst ha hb
theorem RpA.dropLast {K : Fg} {μ : List Addr} {H : Hp} {ds : List D} {vs : List V} (r : RpA K μ H ds vs) : RpA K μ H ds.dropLast vs.dropLast := by
  rw [List.dropLast_eq_take, List.dropLast_eq_take, r.length]
  exact r.take _
theorem sd_pop {ap : Pos} (hc : notCall a = true) (hl : (ap.endLine == pos.line) = true) (ha : SdE p a ca) : SdE p (.Call (.Attribute a "pop" ap) [] [] pos) (.pop ca) := fun X C g =>
  (pe_bm0 (name := "pop") PySem.F.plainAttrs_list PySem.F.slot_list_pop PySem.F.type_list_pop mt_pop (ha X C g) (plain_base hc _ _ _) hl).pq fun σ H Q ⟨μ, ρ, S, he, hs, h⟩ => by
    unfold evE at h
    refine ⟨μ, ρ, S, he, hs, h.bind.imp fun x S1 μ1 H1 _ e1 s1 h1 v rv => ?_⟩
    obtain ⟨i, ds, a0, vs, rfl, rfl, ei, ea, k1, k2, k3, h1⟩ := Po.withL s1 rv h1
    obtain ⟨d, ed, h1⟩ := h1.may
    obtain ⟨w, ew, rw_⟩ := k2.get ed
    obtain ⟨x1, x2⟩ := s1.put ea k1 k2.dropLast (by rw [List.length_dropLast]; omega)
    exact ⟨ty_lst (K := fgX X) k1, a0, vs, w, rfl, rfl, k1, by rw [← k2.length]; exact ew, h1 _ _ x1 x2 _ (rw_.mono x1)⟩
theorem sd_ext {ap : Pos} (hc : notCall a = true) (hl : (ap.endLine == pos.line) = true) (hst : notStar e = true) (ha : SdE p a ca) (hb : SdR p e cr) : SdE p (.Call (.Attribute a "extend" ap) [e] [] pos) (.ext ca cr) := fun X C g =>
  (pe_bm (name := "extend") PySem.F.plainAttrs_list PySem.F.slot_list_extend PySem.F.type_list_extend mt_extend (ha X C g) (pa_cons (hb X C g) pa_nil (star_cons hst [] _)) (plain_base hc _ _ _) (few1 _ _ hst) hl (star_cons hst [] _) rfl).pq fun σ H Q ⟨μ, ρ, S, he, hs, h⟩ => by
    unfold evE at h
    refine ⟨μ, ρ, S, he, hs, h.bind.imp fun x S1 μ1 H1 _ e1 s1 h1 v rv => ?_⟩
    obtain ⟨i, ds, a0, vs, rfl, rfl, ei, ea, k1, k2, k3, h1⟩ := h1.withL s1 rv
    refine ⟨ty_lst (K := fgX X) k1, μ1, ρ, S1, he.mono e1, s1, h1.bind.imp fun y S2 μ2 H2 _ e2 s2 h2 w rw_ => ?_⟩
    obtain ⟨i', es, a', us, e3, e4, ej, eb, l1, l2, l3, h2⟩ := Po.withL s2 (rv.mono e2) h2
    cases e3
    cases e4
    obtain ⟨fs, ef, h2⟩ := h2.may
    obtain ⟨hz, h2⟩ := h2.ite
    obtain ⟨b, ws, rfl, m1, m2, m3⟩ := tr_rv s2 rw_ ef
    obtain ⟨x1, x2⟩ := s2.put eb l1 (l2.append m2) (by rw [List.length_append]; exact hz)
    exact ⟨a0, b, us, ws, rfl, rfl, l1, m1, by rw [← l2.length, ← m2.length]; exact hz, h2 _ _ x1 x2 _ rfl⟩

theorem rp_strs {K : Fg} {μ : List Addr} {H : Hp} : ∀ {ds : List D} {vs : List V} {ys : List Str}, RpA K μ H ds vs → strsOf ds = some ys → vs = ys.map V.str
  | [], _, _, h, e => by
    cases e
    exact h
  | .str x :: ds, _, ys, ⟨v, r, e1, h1, h2⟩, e => by
    have e : (strsOf ds).map (x :: ·) = some ys := e
    cases e2 : strsOf ds with
    | none => rw [e2] at e; cases e
    | some zs =>
      rw [e2] at e
      cases e
      rw [e1, rp_strs h2 e2]
      cases h1
      rfl
  | .non :: _, _, _, _, e => nomatch e
  | .bl _ :: _, _, _, _, e => nomatch e
  | .int _ :: _, _, _, _, e => nomatch e
  | .tup _ :: _, _, _, _, e => nomatch e
  | .fix _ :: _, _, _, _, e => nomatch e
  | .ref _ :: _, _, _, _, e => nomatch e
/-- 'text'.join(r) -/
theorem sd_join {ap cp : Pos} {s : Str} {j : _} (hl : (ap.endLine == pos.line) = true) (hst : notStar e = true) (hb : SdR p e cr) : SdE p (.Call (.Attribute (.Constant (.str s) j cp) "join" ap) [e] [] pos) (.join s cr) := fun X C g =>
  (pe_join (o := .Constant (.str s) j cp) pe_str (hb X C g) (star_cons hst [] _) rfl hl).pq fun σ H Q ⟨μ, ρ, S, he, hs, h⟩ => by
    unfold evE at h
    refine ⟨⟨s, rfl⟩, μ, ρ, S, he, hs, h.bind.imp fun w S1 μ1 H1 _ e1 s1 h1 v rv => ?_⟩
    obtain ⟨ds, e2, h1⟩ := h1.may
    obtain ⟨ys, e3, h1⟩ := h1.may
    obtain ⟨z, h1⟩ := h1.ask
    obtain ⟨a, vs, rfl, q1, q2, _⟩ := sq_rv s1 rv e2
    have ev := rp_strs q2 e3
    subst ev
    exact ⟨s, a, ys, rfl, rfl, q1.imp id (fun z => z.1.sq), z, h1.at s1 _ rfl⟩

theorem ixL_of {K : Fg} {μ : List Addr} {H : Hp} {S : Sto} {x y : D} {a : Addr} {w : V} {ps : List PyData} {n : Nat} {p : PyData} (hs : StOk K μ H S) (ry : Rp K μ H y w) (ep : toP S y = some p) (h : (if (shp p && shp (.list ps)) = true then ps.findIdx? (fun q => PyData.eqv q p) else none) = some n) :
    Dp K H w p ∧ shp (.list ps) = true ∧ shp p = true ∧ ∃ z, ps[n]? = some z ∧ PyData.eqv z p = true ∧ ∀ (m : Nat) (z' : PyData), m < n → ps[m]? = some z' → PyData.eqv z' p = false := by
  split at h
  · rename_i c
    rw [Bool.and_eq_true] at c
    obtain ⟨h1, h2, h3⟩ := List.findIdx?_eq_some_iff_getElem.mp h
    refine ⟨toP_dp hs ry ep, c.2, c.1, ps[n], List.getElem?_eq_getElem h1, h2, fun m z' hm e => ?_⟩
    have h4 := h3 m hm
    rw [(List.getElem?_eq_some_iff.mp e).2] at h4
    simpa using h4
  · cases h
/-- x.index(y) -/
theorem sd_tix {ap : Pos} (hc : notCall a = true) (hl : (ap.endLine == pos.line) = true) (hst : notStar e = true) (ha : SdE p a ca) (hb : SdE p e cb) : SdE p (.Call (.Attribute a "index" ap) [e] [] pos) (.tix ca cb) := fun X C g =>
  (pe_tl (name := "index") PySem.F.slot_tuple_index PySem.F.type_tuple_index (mt_indexTI (by have := g.un; omega)) PySem.F.slot_list_index PySem.F.type_list_index (mt_indexP (by have := g.un; omega)) (ha X C g) (pa_cons (hb X C g) pa_nil (star_cons hst [] _)) (plain_base hc _ _ _) (few1 _ _ hst) hl (star_cons hst [] _) rfl).pq fun σ H Q ⟨μ, ρ, S, he, hs, h⟩ => by
    unfold evE at h
    refine ⟨μ, ρ, S, he, hs, h.bind.imp fun x S1 μ1 H1 _ e1 s1 h1 v rv => ?_⟩
    cases x with
    | tup ds =>
      obtain ⟨a0, vs, rfl, k1, k2, k3⟩ := rv
      have h1 : Po (fgX X) μ1 H1 ((evE C cb ρ S1).bind fun y S2 => tixD ds y S2) _ := h1
      refine .inl ⟨⟨a0, vs, rfl, k1⟩, μ1, ρ, S1, he.mono e1, s1, h1.bind.imp fun y S2 μ2 H2 _ e2 s2 h2 w rw_ => ?_⟩
      have gen : Po (fgX X) μ2 H2 (may (ixD (.tup ds) y S2) fun j => Res.ok (D.int (j : Nat)) S2) (fun d x μ' H' => ∀ (v : V), Rp (fgX X) μ' H' d v → Q v H') → rIdxI (fgX X) (.ref a0) [w] H2 Q ∨ rIndexT (fgX X) (.ref a0) [w] H2 Q := fun h2 => by
        obtain ⟨n, en, h2⟩ := h2.may
        have rx : Rp (fgX X) μ2 H2 (.tup ds) (.ref a0) := ⟨a0, vs, rfl, e2.tup _ _ k1, k2.mono e2, k3⟩
        unfold ixD at en
        cases ex : toP S2 (.tup ds) with
        | none => rw [ex] at en; cases en
        | some q =>
          cases ey : toP S2 y with
          | none => rw [ex, ey] at en; cases q <;> cases en
          | some p =>
            have dx := toP_dp s2 rx ex
            cases q with
            | tuple ps =>
              rw [ex, ey] at en
              obtain ⟨d1, d2, d3, z, d4, d5, d6⟩ := ixL_of (x := .tup ds) (a := a0) s2 rw_ ey en
              exact .inr ⟨a0, w, p, ps, n, z, rfl, rfl, dx, d1, d2, d3, d4, d5, d6, h2.at s2 _ rfl⟩
            | list ps =>
              exfalso
              have : (toPsW (refP S2 8) ds).map PyData.tuple = some (.list ps) := ex
              cases e9 : toPsW (refP S2 8) ds with
              | none => rw [e9] at this; cases this
              | some _ => rw [e9] at this; cases this
            | _ => rw [ex, ey] at en; cases en
      cases y with
      | int z =>
        have h2 : Po (fgX X) μ2 H2 (may (intsOf ds) fun ns => if z ∈ ns then Res.ok (D.int ((ns.idxOf z : Nat) : Int)) S2 else Res.bad) _ := h2
        obtain ⟨ns, en, h2⟩ := h2.may
        obtain ⟨hz, h2⟩ := h2.ite
        have ev := rp_ints k2 en
        subst ev
        refine .inl ⟨a0, ns, z, ns.idxOf z, rfl, by rw [show w = V.int z from rw_], (e2.tup _ _ k1).sq, ?_, fun m hm e => ?_, h2.at s2 _ rfl⟩
        · rw [List.getElem?_eq_getElem (List.idxOf_lt_length_iff.mpr hz)]
          simp
        · have hm' : m < ns.length := (List.getElem?_eq_some_iff.mp e).1
          have := List.not_of_lt_findIdx (p := (· == z)) (xs := ns) hm
          rw [(List.getElem?_eq_some_iff.mp e).2] at this
          simp at this
      | _ => exact gen h2
    | ref j =>
      have h1 : Po (fgX X) μ1 H1 (withL S1 (.ref j) fun _ _ => (evE C cb ρ S1).bind fun y S2 => may (ixD (.ref j) y S2) fun n => Res.ok (D.int (n : Nat)) S2) _ := h1
      obtain ⟨i, ds, a0, vs, ej, rfl, ei, ea, k1, k2, k3, h1⟩ := h1.withL s1 rv
      cases ej
      refine .inr ⟨ty_lst (K := fgX X) k1, μ1, ρ, S1, he.mono e1, s1, h1.bind.imp fun y S2 μ2 H2 _ e2 s2 h2 w rw_ => ?_⟩
      obtain ⟨n, en, h2⟩ := h2.may
      have rx := rv.mono e2
      unfold ixD at en
      cases ex : toP S2 (.ref j) with
      | none => rw [ex] at en; cases en
      | some q =>
        cases ey : toP S2 y with
        | none => rw [ex, ey] at en; cases q <;> cases en
        | some p =>
          have dx := toP_dp s2 rx ex
          cases q with
          | list ps =>
            rw [ex, ey] at en
            obtain ⟨d1, d2, d3, z, d4, d5, d6⟩ := ixL_of (x := .ref j) (a := a0) s2 rw_ ey en
            exact ⟨a0, w, p, ps, n, z, rfl, rfl, dx, d1, d2, d3, d4, d5, d6, h2.at s2 _ rfl⟩
          | tuple ps =>
            exfalso
            have : refP S2 8 j = some (.tuple ps) := ex
            unfold refP at this
            split at this
            · rename_i q _
              cases e9 : toPsW (refP S2 7) q with
              | none => rw [e9] at this; cases this
              | some _ => rw [e9] at this; cases this
            · cases this
          | _ => rw [ex, ey] at en; cases en
    | _ => exact (show False from h1).elim

/-! ### in, not in -/
theorem flat_rp {K : Fg} {μ : List Addr} {H : Hp} {x y : D} {v u : V} (rx : Rp K μ H x v) (f : flatD x = true) : flatV v = true := by
  cases x <;> first | (cases f; done) | (cases rx; rfl)
theorem eqF_rp {K : Fg} {μ : List Addr} {H : Hp} {x y : D} {v u : V} (rx : Rp K μ H x v) (ry : Rp K μ H y u) (fx : flatD x = true) (fy : flatD y = true) : eqV u v = eqF y x := by
  cases x <;> cases y <;> first | (cases fx; done) | (cases fy; done) | (cases rx; cases ry; rfl)
theorem flats_rp {K : Fg} {μ : List Addr} {H : Hp} : ∀ {ds : List D} {vs : List V}, RpA K μ H ds vs → ds.all flatD = true → vs.all flatV = true
  | [], _, h, _ => by rw [show _ = ([] : List V) from h]; rfl
  | d :: ds, _, ⟨v, r, e, h1, h2⟩, h => by
    rw [List.all_cons, Bool.and_eq_true] at h
    rw [e, List.all_cons, flat_rp (y := d) (u := v) h1 h.1, flats_rp h2 h.2]
    rfl
theorem anyF_rp {K : Fg} {μ : List Addr} {H : Hp} {x : D} {v : V} (rx : Rp K μ H x v) (fx : flatD x = true) : ∀ {ds : List D} {vs : List V}, RpA K μ H ds vs → ds.all flatD = true → inV v vs = ds.any fun y => eqF y x
  | [], _, h, _ => by rw [show _ = ([] : List V) from h]; rfl
  | d :: ds, _, ⟨w, r, e, h1, h2⟩, h => by
    rw [List.all_cons, Bool.and_eq_true] at h
    rw [e]
    show (eqV w v || inV v r) = _
    rw [List.any_cons, eqF_rp rx h1 fx h.1, anyF_rp rx fx h2 h.2]
def rIn2 (K : Fg) (neg : Bool) : R2 := fun x y H Q => rIn K neg x y H Q ∨ ∃ d ds, Dp K H x d ∧ Dp K H y (.list ds) ∧ shp d = true ∧ shp (.list ds) = true ∧ Q (.bl (if neg then !ds.any (fun z => PyData.eqv z d) else ds.any fun z => PyData.eqv z d)) H
/-- in, of a dict -/
def rInK (neg : Bool) : R2 := fun x y H Q => ∃ a o, y = .ref a ∧ DGet H a x o ∧ Q (.bl (if neg then !o.isSome else o.isSome)) H
theorem op_inK {X : Cx} (hu : X.A.units + 1 < cLine) : OpR X (compareOp .In) (rInK false) := by
  intro pins s σ H x y v u Q I rx ry q
  obtain ⟨a, o, rfl, g, q⟩ := q
  cases ry
  exact d_in hu I g rx fun s' I' => ⟨.bl o.isSome, H, I', rfl, q⟩
theorem op_notInK {X : Cx} (hu : X.A.units + 1 < cLine) : OpR X (compareOp .NotIn) (rInK true) := by
  intro pins s σ H x y v u Q I rx ry q
  obtain ⟨a, o, rfl, g, q⟩ := q
  cases ry
  exact d_notIn hu I g rx fun s' I' => ⟨.bl (!o.isSome), H, I', rfl, q⟩
def rInT (K : Fg) (neg : Bool) : R2 := fun x y H Q => ∃ (a b : Addr) (xs : List TEn) (k : NestedKey), x = .ref b ∧ y = .ref a ∧ TRd K.k K.P K.w H a xs ∧ KyV K.k H k (.ref b) ∧ k.depth ≤ 8 ∧ Q (.bl (if neg then !(atKey xs k).isSome else (atKey xs k).isSome)) H
theorem op_inT {X : Cx} (hu : X.A.units + 30 < cLine) : OpR X (compareOp .In) (rInT (fgX X) false) := by
  intro pins s σ H x y v u Q I rx ry q
  obtain ⟨a, b, xs, k, rfl, rfl, e, hk, hd, q⟩ := q
  cases rx
  cases ry
  exact t_in (by omega) I e hk hd fun s' I' => ⟨.bl (atKey xs k).isSome, H, I', rfl, q⟩
theorem op_notInT {X : Cx} (hu : X.A.units + 30 < cLine) : OpR X (compareOp .NotIn) (rInT (fgX X) true) := by
  intro pins s σ H x y v u Q I rx ry q
  obtain ⟨a, b, xs, k, rfl, rfl, e, hk, hd, q⟩ := q
  cases rx
  cases ry
  exact t_notIn (by omega) I e hk hd fun s' I' => ⟨.bl (!(atKey xs k).isSome), H, I', rfl, q⟩
/-- a dict of the store, with tuple keys or empty -/
theorem rp_tab {K : Fg} {μ : List Addr} {H : Hp} {S : Sto} {v : V} {i : Nat} {ks : List (NestedKey × D)} (r : Rp K μ H (.ref i) v) (hs : StOk K μ H S) (e : tabOf S (.val (.ref i)) = some ks) : ∃ a xs, v = .ref a ∧ μ[i]? = some a ∧ TRd K.k K.P K.w H a xs ∧ TbR K μ H ks xs ∧ ks.length ≤ sizeLine := by
  have e : (match S[i]? with
    | some (Ob.dic []) => some []
    | some (Ob.dkt ks) => some ks
    | _ => none) = some ks := e
  cases ei : S[i]? with
  | none => rw [ei] at e; cases e
  | some o =>
    rw [ei] at e
    cases o with
    | lst ds => cases e
    | frd ds => cases e
    | dic l =>
      cases l with
      | nil =>
        cases e
        obtain ⟨a, vs, e1, e2, h1, h2, _⟩ := rp_refD r hs ei
        refine ⟨a, [], e1, e2, .inr ⟨?_, rfl⟩, rfl, Nat.zero_le _⟩
        rw [h1, show vs = [] from h2]
      | cons x l => cases e
    | dkt l =>
      cases e
      obtain ⟨a, xs, e1, e2, h1, h2, h3, h4, h5⟩ := rp_refT r hs ei
      exact ⟨a, xs, e1, e2, .inl ⟨h1, h2, h3⟩, h4, h5⟩
theorem TbR.isSome {K : Fg} {μ : List Addr} {H : Hp} {ks : List (NestedKey × D)} {xs : List TEn} {k : NestedKey} (h : TbR K μ H ks xs) : (atKey xs k).isSome = (gT ks k).isSome := by
  rcases h.get (k := k) with ⟨e1, e2⟩ | ⟨d, p, v, e1, e2, _⟩
  · rw [e1, e2]; rfl
  · rw [e1, e2]; rfl
theorem key_rp {K : Fg} {μ : List Addr} {H : Hp} {x : D} {v : V} {k : Key} (r : Rp K μ H x v) (h : keyOf x = some k) : v = kV k := by
  cases x with
  | int i => cases h; exact r
  | str i => cases h; exact r
  | _ => cases h
def rInS (neg : Bool) : R2 := fun x y H Q => ∃ (c : Nat) (z : Str), x = .str ⟨#[c]⟩ ∧ y = .str z ∧ Q (.bl (if neg then !decide (c ∈ z.cps.toList) else decide (c ∈ z.cps.toList))) H
theorem signIn_rp {K : Fg} {μ : List Addr} {H : Hp} {x : D} {r : RV} {v u : V} {k : Bool} (rx : Rp K μ H x v) (rr : RvR K μ H r u) (h : signIn x r = some k) : ∃ (c : Nat) (z : Str), v = .str ⟨#[c]⟩ ∧ u = .str z ∧ k = decide (c ∈ z.cps.toList) := by
  unfold signIn at h
  split at h
  · rename_i c z
    cases h
    exact ⟨c, z, rx, rr, rfl⟩
  · cases h
def rIn3 (K : Fg) (neg : Bool) : R2 := fun x y H Q => rInS neg x y H Q ∨ ((rInK neg x y H Q ∨ rInT K neg x y H Q) ∨ rIn2 K neg x y H Q)
theorem os_in {K : Fg} {μ : List Addr} {H : Hp} {S : Sto} {x : D} {r : RV} {v u : V} {Q : VK} {k : Bool} (neg : Bool) (hs : StOk K μ H S) (rx : Rp K μ H x v) (rr : RvR K μ H r u) (h : inD x r S = some k) (q : Q (.bl (if neg then !k else k)) H) : rIn3 K neg v u H Q := by
  unfold inD at h
  cases e1 : sqOf S r with
  | none =>
    rw [e1] at h
    have h : (match signIn x r with
      | some b => some b
      | none => match dicOf S r, keyOf x with
        | some ks, some k => some (gD ks k).isSome
        | _, _ => match tabOf S r, keyT x with
          | some ks, some k => some (gT ks k).isSome
          | _, _ => none) = some k := h
    cases e0 : signIn x r with
    | some b0 =>
      rw [e0] at h
      cases h
      obtain ⟨c, z, rfl, rfl, e⟩ := signIn_rp rx rr e0
      subst e
      exact .inl ⟨c, z, rfl, rfl, q⟩
    | none =>
    rw [e0] at h
    have h : (match dicOf S r, keyOf x with
      | some ks, some k => some (gD ks k).isSome
      | _, _ => match tabOf S r, keyT x with
        | some ks, some k => some (gT ks k).isSome
        | _, _ => none) = some k := h
    have tb : (match tabOf S r, keyT x with
        | some ks, some k => some (gT ks k).isSome
        | _, _ => none) = some k → rInT K neg v u H Q := by
      intro h
      cases e2 : tabOf S r with
      | none => rw [e2] at h; cases h
      | some ks =>
        cases e3 : keyT x with
        | none => rw [e2, e3] at h; cases h
        | some j =>
          rw [e2, e3] at h
          cases h
          cases r with
          | val d =>
            cases d with
            | ref i =>
              obtain ⟨a, xs, rfl, _, h1, h2, h3⟩ := rp_tab rr hs e2
              obtain ⟨⟨b, rfl⟩, k1, k2⟩ := key_t e3 rx
              refine ⟨a, b, xs, j, rfl, rfl, h1, k1, k2, ?_⟩
              rw [h2.isSome]
              exact q
            | _ => cases e2
          | _ => cases e2
    cases e2 : dicOf S r with
    | none => rw [e2] at h; exact .inr (.inl (.inr (tb h)))
    | some ks =>
      cases e3 : keyOf x with
      | none => rw [e2, e3] at h; exact .inr (.inl (.inr (tb h)))
      | some j =>
        rw [e2, e3] at h
        cases h
        obtain ⟨a, vs, rfl, h1, h2, h3, h4⟩ := dic_rv hs rr e2
        refine .inr (.inl (.inl ⟨a, valV vs j, rfl, ?_, by rw [h2.isSome]; exact q⟩))
        rw [key_rp rx e3]
        exact dget_rd h1
  | some ds =>
    refine .inr (.inr ?_)
    rw [e1] at h
    have h : (if (flatD x && ds.all flatD) = true then some (ds.any fun y => eqF y x) else (match lsOf S r with
      | some ds => (match toP S x, toPs S ds with
        | some p, some ps => if (shp p && shp (.list ps)) = true then some (ps.any fun q => PyData.eqv q p) else none
        | _, _ => none)
      | none => none)) = some k := h
    split at h
    · rename_i hf
      rw [Bool.and_eq_true] at hf
      cases h
      obtain ⟨a, vs, rfl, h1, h2, _⟩ := sq_rv hs rr e1
      refine .inl ⟨a, vs, rfl, sq_or h1, flat_rp (y := x) (u := v) rx hf.1, flats_rp h2 hf.2, ?_⟩
      rw [anyF_rp rx hf.1 h2 hf.2]
      exact q
    · cases e2 : lsOf S r with
      | none => rw [e2] at h; cases h
      | some es =>
        rw [e2] at h
        obtain ⟨a, vs, rfl, h1, h2, _⟩ := ls_rv hs rr e2
        have h : (match toP S x, toPs S es with
          | some p, some ps => if (shp p && shp (.list ps)) = true then some (ps.any fun q => PyData.eqv q p) else none
          | _, _ => none) = some k := h
        cases e3 : toP S x with
        | none => rw [e3] at h; cases h
        | some p1 =>
          cases e4 : toPs S es with
          | none => rw [e3, e4] at h; cases h
          | some ps =>
            rw [e3, e4] at h
            have h : (if (shp p1 && shp (.list ps)) = true then some (ps.any fun q => PyData.eqv q p1) else none) = some k := h
            split at h
            · rename_i hf
              rw [Bool.and_eq_true] at hf
              cases h
              exact .inr ⟨p1, ps, toP_dp hs rx e3, .lst h1 (toPs_dp hs h2 e4), hf.1, hf.2, q⟩
            · cases h
theorem sc_in (hm : behindInMarks .In b = false) (ha : SdE p a ca) (hb : SdR p b cr) : SdC p (.Compare a [.In] [b] pos) (.inr ca cr) := fun X C g => by
  have hu := g.un
  have ho : OpR X (compareOp .In) (rIn3 (fgX X) false) := op_in_sign.or (((op_inK (by omega)).or (op_inT (by omega))).or (op_in_seq.or (op_inP (by omega))))
  refine ⟨_, pe_cmpR ho (ha X C g) (hb X C g) hm, pt_cmpR ho (ha X C g) (hb X C g) hm, fun σ H Q ⟨μ, ρ, S, he, hs, h⟩ => ?_⟩
  unfold evE at h
  refine ⟨μ, ρ, S, he, hs, h.bind.imp fun x S1 μ1 H1 _ e1 s1 h1 v rv => ?_⟩
  refine ⟨μ1, ρ, S1, he.mono e1, s1, h1.bind.imp fun y S2 μ2 H2 _ e2 s2 h2 u ru => ?_⟩
  obtain ⟨k, ek, h2⟩ := h2.may
  exact os_in false s2 (rv.mono e2) ru ek (h2.at s2 _ rfl)
theorem sc_notIn (hm : behindInMarks .NotIn b = false) (ha : SdE p a ca) (hb : SdR p b cr) : SdC p (.Compare a [.NotIn] [b] pos) (.notInr ca cr) := fun X C g => by
  have hu := g.un
  have ho : OpR X (compareOp .NotIn) (rIn3 (fgX X) true) := op_notIn_sign.or (((op_notInK (by omega)).or (op_notInT (by omega))).or (op_notIn_seq.or (op_notInP (by omega))))
  refine ⟨_, pe_cmpR ho (ha X C g) (hb X C g) hm, pt_cmpR ho (ha X C g) (hb X C g) hm, fun σ H Q ⟨μ, ρ, S, he, hs, h⟩ => ?_⟩
  unfold evE at h
  refine ⟨μ, ρ, S, he, hs, h.bind.imp fun x S1 μ1 H1 _ e1 s1 h1 v rv => ?_⟩
  refine ⟨μ1, ρ, S1, he.mono e1, s1, h1.bind.imp fun y S2 μ2 H2 _ e2 s2 h2 u ru => ?_⟩
  obtain ⟨k, ek, h2⟩ := h2.may
  exact os_in true s2 (rv.mono e2) ru ek (h2.at s2 _ rfl)
theorem b_in : ∀ C ρ S d S', evE C (.inr ca cr) ρ S = .ok d S' → isB d = true := fun C ρ S d S' h => by
  unfold evE at h
  obtain ⟨x, S1, _, h⟩ := bind_ok h
  obtain ⟨y, S2, _, h⟩ := bind_ok h
  obtain ⟨k, _, h⟩ := may_ok h
  cases h; rfl
theorem b_notIn : ∀ C ρ S d S', evE C (.notInr ca cr) ρ S = .ok d S' → isB d = true := fun C ρ S d S' h => by
  unfold evE at h
  obtain ⟨x, S1, _, h⟩ := bind_ok h
  obtain ⟨y, S2, _, h⟩ := bind_ok h
  obtain ⟨k, _, h⟩ := may_ok h
  cases h; rfl

/-! ### dicts -/
/-- a value that is a dict of the store -/
theorem Po.withD {α : Type} {K : Fg} {μ : List Addr} {H : Hp} {S : Sto} {x : D} {v : V} {f : Nat → List (Key × D) → Res α} {P : α → Sto → List Addr → Hp → Prop} (hs : StOk K μ H S) (r : Rp K μ H x v) (h : Po K μ H (withD S x f) P) : ∃ i ks a vs, x = .ref i ∧ v = .ref a ∧ S[i]? = some (.dic ks) ∧ μ[i]? = some a ∧ H a = some (.dK vs) ∧ RpK K μ H ks vs ∧ ks.length ≤ sizeLine ∧ Nk ks ∧ Po K μ H (f i ks) P := by
  cases x with
  | ref i =>
    have h : Po K μ H (match S[i]? with
      | some (Ob.dic ks) => f i ks
      | _ => Res.bad) P := h
    cases ei : S[i]? with
    | none => rw [ei] at h; exact h.elim
    | some o =>
      rw [ei] at h
      cases o with
      | lst ds => exact h.elim
      | frd ks => exact h.elim
      | dkt ks => exact h.elim
      | dic ks =>
        obtain ⟨a, vs, e1, e2, h1, h2, h3, h4⟩ := rp_refD r hs ei
        exact ⟨i, ks, a, vs, rfl, e1, ei, e2, h1, h2, h3, h4, h⟩
  | _ => exact (show False from h).elim
/-- .. that is only read -/
theorem Po.withR {α : Type} {K : Fg} {μ : List Addr} {H : Hp} {S : Sto} {x : D} {v : V} {f : Nat → List (Key × D) → Res α} {P : α → Sto → List Addr → Hp → Prop} (hs : StOk K μ H S) (r : Rp K μ H x v) (h : Po K μ H (withR S x f) P) : ∃ i ks a vs, x = .ref i ∧ v = .ref a ∧ μ[i]? = some a ∧ Rd H a (.dK vs) ∧ RpK K μ H ks vs ∧ Po K μ H (f i ks) P := by
  cases x with
  | ref i =>
    have h : Po K μ H (match S[i]? with
      | some (Ob.dic ks) => f i ks
      | some (Ob.frd ks) => f i ks
      | _ => Res.bad) P := h
    cases ei : S[i]? with
    | none => rw [ei] at h; exact h.elim
    | some o =>
      rw [ei] at h
      cases o with
      | lst ds => exact h.elim
      | dkt ks => exact h.elim
      | dic ks =>
        obtain ⟨a, vs, e1, e2, h1, h2, h3, h4⟩ := rp_refD r hs ei
        exact ⟨i, ks, a, vs, rfl, e1, e2, .inl h1, h2, h⟩
      | frd ks =>
        obtain ⟨a, vs, e1, e2, h1, h2, h3, h4⟩ := rp_refF r hs ei
        exact ⟨i, ks, a, vs, rfl, e1, e2, .inr h1, h2, h⟩
  | _ => exact (show False from h).elim
/-- any dict -/
theorem Po.withK {α : Type} {K : Fg} {μ : List Addr} {H : Hp} {S : Sto} {x : D} {v : V} {f : Res α} {P : α → Sto → List Addr → Hp → Prop} (hs : StOk K μ H S) (r : Rp K μ H x v) (h : Po K μ H (withK S x f) P) : ∃ i a, x = .ref i ∧ v = .ref a ∧ IsDT K.P K.w H a ∧ Po K μ H f P := by
  cases x with
  | ref i =>
    have h : Po K μ H (match S[i]? with
      | some (Ob.dic _) => f
      | some (Ob.frd _) => f
      | some (Ob.dkt _) => f
      | _ => Res.bad) P := h
    cases ei : S[i]? with
    | none => rw [ei] at h; exact h.elim
    | some o =>
      rw [ei] at h
      cases o with
      | lst ds => exact h.elim
      | dic ks =>
        obtain ⟨a, vs, e1, e2, h1, h2, h3, h4⟩ := rp_refD r hs ei
        exact ⟨i, a, rfl, e1, .inl (.inl ⟨vs, .inl h1⟩), h⟩
      | frd ks =>
        obtain ⟨a, vs, e1, e2, h1, h2, h3, h4⟩ := rp_refF r hs ei
        exact ⟨i, a, rfl, e1, .inl (.inl ⟨vs, .inr h1⟩), h⟩
      | dkt ks =>
        obtain ⟨a, xs, e1, e2, h1, _⟩ := rp_refT r hs ei
        exact ⟨i, a, rfl, e1, .inr ⟨xs, h1⟩, h⟩
  | _ => exact (show False from h).elim
/-- {} -/
theorem sd_dnew : SdE p (.Dict [] [] pos) .dnew := fun X C g => pe_dnewK.pq fun σ H Q ⟨μ, ρ, S, he, hs, h⟩ => by
  unfold evE at h
  intro q hq
  refine h (μ ++ [q]) _ ((hs.fresh hq _).take hq) ((hs.freshOk hq _).takeO (fun m => ?_) ⟨[], upd_same, rfl, Nat.zero_le _, trivial⟩) _ ⟨q, rfl, ?_⟩
  · obtain ⟨w, e, _⟩ := hs.mem m
    rw [hq] at e; cases e
  · rw [← hs.len, List.getElem?_append_right (Nat.le_refl _), Nat.sub_self]
    rfl
/-- d.get(k, x), by values -/
theorem dget_rp {K : Fg} {μ : List Addr} {H : Hp} {S : Sto} {n : Nat} {a : Addr} {y z : D} {u w : V} {Q : VK} (hs : StOk K μ H S) (rx : Rp K μ H (.ref n) (.ref a)) (ry : Rp K μ H y u) (rz : Rp K μ H z w) (h : Po K μ H (dgetD (.ref n) y z S) fun d _ μ' H' => ∀ v, Rp K μ' H' d v → Q v H') : rTGet K.k K.P K.w a u w H Q := by
  unfold dgetD at h
  cases ek : keyT y with
  | some k =>
    rw [ek] at h
    obtain ⟨ks, e1, h⟩ := Po.may (show Po K μ H (may (tabOf S (.val (.ref n))) fun ks => .ok ((gT ks k).getD z) S) _ from h)
    obtain ⟨a', xs, ea, _, h1, h2, h3⟩ := rp_tab rx hs e1
    cases ea
    obtain ⟨⟨b, rfl⟩, k1, k2⟩ := key_t ek ry
    refine .inr ⟨xs, k, b, h1, rfl, k1, k2, ?_⟩
    rcases h2.get (k := k) with ⟨g1, g2⟩ | ⟨d, p, v, g1, g2, g3, g4⟩
    · rw [g1] at h
      exact .inl ⟨g2, h.at hs _ rz⟩
    · rw [g1] at h
      exact .inr ⟨p, v, g2, g3, h.at hs _ g4⟩
  | none =>
    rw [ek] at h
    obtain ⟨i, ks, a', vs, e1, e2, eb, l1, l2, h⟩ := Po.withR hs rx (show Po K μ H (withR S (.ref n) fun _ ks => may (keyOf y) fun k => .ok ((gD ks k).getD z) S) _ from h)
    cases e2
    obtain ⟨k, ek', h⟩ := h.may
    refine .inl ⟨valV vs k, ?_, ?_⟩
    · rw [key_rp ry ek']
      exact dget_rd l1
    · cases eg : gD ks k with
      | none =>
        rw [l2.getN eg]
        rw [eg] at h
        exact h.at hs _ rz
      | some d =>
        obtain ⟨w', ew, rd⟩ := l2.getS eg
        rw [ew]
        rw [eg] at h
        exact h.at hs _ rd
/-- d.get(k, x) -/
theorem sd_dget {ap : Pos} (hc : notCall a = true) (hl : (ap.endLine == pos.line) = true) (hst : notStar b = true) (hst2 : notStar c = true) (ha : SdE p a ca) (hb : SdE p b cb) (hcc : SdE p c cc) : SdE p (.Call (.Attribute a "get" ap) [b, c] [] pos) (.dget ca cb cc) := fun X C g =>
  (pe_tget2 (by have := g.un; omega) (ha X C g) (hb X C g) (hcc X C g) ⟨plain_base hc _ _ _, by
    rw [star_cons hst, star_cons hst2]
    rfl, hl, by
    rw [star_cons hst, star_cons hst2]
    rfl⟩).pq fun σ H Q ⟨μ, ρ, S, he, hs, h⟩ => by
    unfold evE at h
    refine ⟨μ, ρ, S, he, hs, h.bind.imp fun x S1 μ1 H1 _ e1 s1 h1 v rv => ?_⟩
    obtain ⟨i, a0, rfl, rfl, k1, h1⟩ := Po.withK s1 rv h1
    refine ⟨a0, rfl, k1, μ1, ρ, S1, he.mono e1, s1, h1.bind.imp fun y S2 μ2 H2 _ e2 s2 h2 w rw_ => ?_⟩
    refine ⟨μ2, ρ, S2, he.mono (e1.trans e2), s2, h2.bind.imp fun z S3 μ3 H3 _ e3 s3 h3 t rt => ?_⟩
    exact dget_rp s3 ((rv.mono e2).mono e3) (rw_.mono e3) rt h3
/-- d.get(k) -/
theorem sd_dget1 {ap : Pos} (hc : notCall a = true) (hl : (ap.endLine == pos.line) = true) (hst : notStar b = true) (ha : SdE p a ca) (hb : SdE p b cb) : SdE p (.Call (.Attribute a "get" ap) [b] [] pos) (.dget ca cb (.lit .non)) := fun X C g =>
  (pe_tget1 (by have := g.un; omega) (ha X C g) (hb X C g) ⟨plain_base hc _ _ _, by
    rw [star_cons hst]
    rfl, hl, by
    rw [star_cons hst]
    rfl⟩).pq fun σ H Q ⟨μ, ρ, S, he, hs, h⟩ => by
    unfold evE at h
    refine ⟨μ, ρ, S, he, hs, h.bind.imp fun x S1 μ1 H1 _ e1 s1 h1 v rv => ?_⟩
    obtain ⟨i, a0, rfl, rfl, k1, h1⟩ := Po.withK s1 rv h1
    refine ⟨a0, rfl, k1, μ1, ρ, S1, he.mono e1, s1, h1.bind.imp fun y S2 μ2 H2 _ e2 s2 h2 w rw_ => ?_⟩
    have h3 := h2.bind
    unfold evE at h3
    have h3 := h3.at s2
    exact dget_rp s2 (rv.mono e2) rw_ (show Rp (fgX X) μ2 H2 .non V.non from rfl) h3
/-- a pair put into a dict with tuple keys -/
theorem nf_trd {K : Fg} {H : Hp} {a : Addr} {xs : List TEn} (h : TRd K.k K.P K.w H a xs) : ∀ o vs, H a ≠ some (.frz o (.dK vs)) := fun o vs z => by
  rcases h with ⟨e, _⟩ | ⟨e, _⟩
  · rw [z] at e; cases e
  · rw [z] at e; cases e
theorem StOk.putT {K : Fg} {μ : List Addr} {H : Hp} {S : Sto} {i : Nat} {a b : Addr} {xs : List TEn} {ks : List (NestedKey × D)} {k : NestedKey} {d : D} {w : V} {u : Value} (hs : StOk K μ H S) (hi : μ[i]? = some a) (hm : (a == sysModules) = false) (h1 : TRd K.k K.P K.w H a xs) (h2 : TbR K μ H ks xs) (hl : ks.length < sizeLine) (k1 : KyV K.k H k (.ref b)) (k2 : k.depth ≤ 8) (rd : Rp K μ H d w) (ru : RelV w u) :
    Ext K μ H μ (upd H a (TbO K.P K.w a (storedH xs k b u))) ∧ StOk K μ (upd H a (TbO K.P K.w a (storedH xs k b u))) (S.set i (.dkt (pT ks k d))) := by
  have ex := hs.putE (TbO K.P K.w a (storedH xs k b u)) hi (nf_trd h1)
  refine ⟨ex, hs.putO hi (nf_trd h1) ⟨_, upd_same, hm, ?_, TbR.le ex.le _ _ (h2.put ru rd), ?_⟩⟩
  · refine KysOk.le ex.le (KysOk.put ?_ k1 k2)
    rcases h1 with ⟨_, _, ky⟩ | ⟨_, rfl⟩
    · exact ky
    · exact fun x hx => nomatch hx
  · have := pT_len ks k d
    omega
theorem pT_none {ks : List (NestedKey × D)} {k : NestedKey} {d : D} (h : gT ks k = none) : pT ks k d = ks ++ [(k, d)] := by
  unfold pT
  rw [h]
  rfl
/-- d.setdefault(k, x), by values -/
theorem dsetd_rp {K : Fg} {μ : List Addr} {H : Hp} {S : Sto} {n : Nat} {a : Addr} {y z : D} {u w : V} {Q : VK} (hs : StOk K μ H S) (rx : Rp K μ H (.ref n) (.ref a)) (ry : Rp K μ H y u) (rz : Rp K μ H z w) (h : Po K μ H (setdD (.ref n) y z S) fun d _ μ' H' => ∀ v, Rp K μ' H' d v → Q v H') : rTSet K.k K.P K.w a u w H Q := by
  unfold setdD at h
  cases ek : keyT y with
  | some k =>
    rw [ek] at h
    obtain ⟨⟨b, rfl⟩, k1, k2⟩ := key_t ek ry
    have h : Po K μ H (match S[n]? with
      | some (Ob.dic []) => Res.ok z (S.set n (.dkt [(k, z)]))
      | some (Ob.dkt ks) => if ks.length < sizeLine then (match gT ks k with
        | some d => Res.ok d S
        | none => .ok z (S.set n (.dkt (ks ++ [(k, z)])))) else .bad
      | _ => .bad) _ := h
    have key : ∀ ks, tabOf S (.val (.ref n)) = some ks → ks.length < sizeLine → Po K μ H (match gT ks k with
        | some d => Res.ok d S
        | none => .ok z (S.set n (.dkt (ks ++ [(k, z)])))) (fun d _ μ' H' => ∀ v, Rp K μ' H' d v → Q v H') → rTSet K.k K.P K.w a (.ref b) w H Q := by
      intro ks e1 hl h
      obtain ⟨a', xs, ea, hi, h1, h2, h3⟩ := rp_tab rx hs e1
      cases ea
      refine .inr ⟨xs, k, b, h1, rfl, k1, k2, by rw [← h2.length]; exact h3, ?_⟩
      rcases h2.get (k := k) with ⟨g1, g2⟩ | ⟨d, p, v, g1, g2, g3, g4⟩
      · rw [g1] at h
        refine .inr ⟨g2, fun u' ru hm => ?_⟩
        obtain ⟨x1, x2⟩ := hs.putT hi hm h1 h2 hl k1 k2 rz ru
        rw [pT_none g1] at x2
        exact h _ _ x1 x2 _ (rz.mono x1)
      · rw [g1] at h
        exact .inl ⟨p, v, g2, g3, h.at hs _ g4⟩
    cases ei : S[n]? with
    | none => rw [ei] at h; exact (show False from h).elim
    | some o =>
      rw [ei] at h
      cases o with
      | lst ds => exact (show False from h).elim
      | frd ds => exact (show False from h).elim
      | dic l =>
        cases l with
        | nil => exact key [] (by simp only [tabOf, ei]) (by rw [sizeLine_eq]; decide) h
        | cons x l => exact (show False from h).elim
      | dkt ks =>
        obtain ⟨hl, h⟩ := Po.ite h
        exact key ks (by simp only [tabOf, ei]) hl h
  | none =>
    rw [ek] at h
    obtain ⟨i, ks, a', vs, e0, e2, ei, ea, l1, l2, l3, l4, h⟩ := Po.withD hs rx (show Po K μ H (withD S (.ref n) fun a ks => may (keyOf y) fun j => if ks.length < sizeLine then (match gD ks j with
    | some d => Res.ok d S
    | none => .ok z (S.set a (.dic (pD ks j z)))) else .bad) _ from h)
    cases e2
    obtain ⟨j, ej, h⟩ := h.may
    obtain ⟨hl, h⟩ := h.ite
    refine .inl ⟨vs, j, l1, key_rp ry ej, by rw [← l2.length]; exact hl, ?_⟩
    cases eg : gD ks j with
    | none =>
      rw [eg] at h
      refine .inr ⟨l2.getN eg, ?_⟩
      exact h _ _ (hs.putE _ ea (nf_dK l1)) (hs.putO ea (nf_dK l1) (u := .dK (putK vs j w)) ⟨_, upd_same, (l2.put rz l4).mono (hs.putE _ ea (nf_dK l1)), (by
        have := pD_length ks j z
        omega), l4.put j z⟩) _ (rz.mono (hs.putE _ ea (nf_dK l1)))
    | some d =>
      rw [eg] at h
      obtain ⟨w', ew, rd⟩ := l2.getS eg
      exact .inl ⟨w', ew, h.at hs _ rd⟩
theorem sd_dsetd {ap : Pos} (hc : notCall a = true) (hl : (ap.endLine == pos.line) = true) (hst : notStar b = true) (hst2 : notStar c = true) (ha : SdE p a ca) (hb : SdE p b cb) (hcc : SdE p c cc) : SdE p (.Call (.Attribute a "setdefault" ap) [b, c] [] pos) (.dsetd ca cb cc) := fun X C g =>
  (pe_tset (by have := g.un; omega) (ha X C g) (hb X C g) (hcc X C g) ⟨plain_base hc _ _ _, by
    rw [star_cons hst, star_cons hst2]
    rfl, hl, by
    rw [star_cons hst, star_cons hst2]
    rfl⟩).pq fun σ H Q ⟨μ, ρ, S, he, hs, h⟩ => by
    unfold evE at h
    refine ⟨μ, ρ, S, he, hs, h.bind.imp fun x S1 μ1 H1 _ e1 s1 h1 v rv => ?_⟩
    obtain ⟨i, a0, rfl, rfl, k1, h1⟩ := Po.withK s1 rv h1
    refine ⟨a0, rfl, k1, μ1, ρ, S1, he.mono e1, s1, h1.bind.imp fun y S2 μ2 H2 _ e2 s2 h2 w rw_ => ?_⟩
    refine ⟨μ2, ρ, S2, he.mono (e1.trans e2), s2, h2.bind.imp fun z S3 μ3 H3 _ e3 s3 h3 t rt => ?_⟩
    exact dsetd_rp s3 ((rv.mono e2).mono e3) (rw_.mono e3) rt h3
end
end PQ

/-! New lists; what is walked; comprehensions. -/
namespace PQ
open PySem PySem.Spec PyProof.Rows L2
section
variable {p : Pl} {a b c e : Expr} {ca cb cc : CE} {cr cr2 : CR} {pos q : Pos}
/-- one's own new list at l -/
theorem own_new {K : Fg} {μ : List Addr} {H : Hp} {S : Sto} {ds : List D} {vs : List V} {l : Addr} (s1 : StOk K μ H S) (r : RpA K μ H ds vs) (hl : H l = none) : l ∉ μ ∧ RpA K μ (upd H l (.lst vs)) ds vs := by
  refine ⟨fun m => ?_, r.mono (s1.fresh hl _)⟩
  obtain ⟨w, ew, _⟩ := s1.mem m
  rw [hl] at ew; cases ew
theorem sq_cat (ha : SdR p a cr) (hb : SdR p b cr2) : SdQ p (.BinOp a .Add b pos) (.cat cr cr2) := fun X C g =>
  (pe_op op_cat (ha X C g) (hb X C g)).pq fun σ H Q ⟨μ, ρ, S, he, hs, h⟩ => by
    unfold evQ at h
    refine ⟨μ, ρ, S, he, hs, h.bind.imp fun x S1 μ1 H1 _ e1 s1 h1 v rv => ?_⟩
    refine ⟨μ1, ρ, S1, he.mono e1, s1, h1.bind.imp fun y S2 μ2 H2 _ e2 s2 h2 u ru => ?_⟩
    obtain ⟨ds, ed, h2⟩ := h2.may
    obtain ⟨es, ee, h2⟩ := h2.may
    obtain ⟨z, h2⟩ := h2.ask
    obtain ⟨a, vs, rfl, k1, k2, k3⟩ := tr_rv s2 (rv.mono e2) ed
    obtain ⟨b, us, rfl, l1, l2, l3⟩ := tr_rv s2 ru ee
    refine ⟨a, b, vs, us, rfl, rfl, k1, l1, by rw [← k2.length, ← l2.length]; exact z, fun l hl => ?_⟩
    obtain ⟨n1, n2⟩ := own_new s2 (k2.append l2) hl
    exact h2 μ2 _ (s2.fresh hl _) (s2.freshOk hl _) l _ (e1.alive _ (e2.alive _ hl)) upd_same n1 n2 (by rw [List.length_append]; exact z)

/-! ### sorted -/
def rSortD (K : Fg) : List V → Hp → VK → Prop := fun vs H Q => ∃ (a : Addr) (xs : List V) (ps : List PyData), vs = [V.ref a] ∧ SqL K H a xs ∧ DpAll K H xs ps ∧ PySem.W.AllAlike ps ∧ PySem.W.Sortable ps ∧ (∀ p ∈ ps, p.depth ≤ 64) ∧ xs.length ≤ sizeLine ∧
  ∀ l, H l = none → Q (.ref l) (upd H l (.lst (((xs.zip ps).mergeSort (PySem.W.dataLe false (·.2))).map (·.1))))
theorem dpAll_zip {K : Fg} {H : Hp} : ∀ {xs : List V} {ps : List PyData}, DpAll K H xs ps → (xs.zip ps).map (·.2) = ps ∧ (xs.zip ps).map (·.1) = xs
  | _, _, .nil => ⟨rfl, rfl⟩
  | _, _, .cons h t => by
    obtain ⟨h1, h2⟩ := dpAll_zip t
    rw [List.zip_cons_cons, List.map_cons, List.map_cons, h1, h2]
    exact ⟨rfl, rfl⟩
theorem cr_sortD {X : Cx} (hu : X.A.units + 70 < cLine) : CallR X (.builtin "sorted") (rSortD (fgX X)) := by
  intro pins s σ H vs us Q I r h
  obtain ⟨a, xs, ps, rfl, hs, hp, hal, hso, hdp, hz, q⟩ := h
  obtain ⟨its, rv, hl, _⟩ := I.list hs
  rw [Vals.ref1 r]
  obtain ⟨z2, z1⟩ := dpAll_zip hp
  have e1 : ∀ {xs : List V} {ps : List PyData} {its : List Value}, DpAll (fgX X) H xs ps → Vals xs its → PySem.W.EachIs (fun (u : Value) (b : V × PyData) => RelV b.1 u) its (xs.zip ps) := by
    intro xs ps its h
    induction xs generalizing ps its with
    | nil => intro r; cases h; cases r; exact .nil
    | cons x xs ih => intro r; cases h with | cons h1 h2 => cases r with | cons r1 r2 => exact .cons r1 (ih h2 r2)
  have e2 : ∀ {xs : List V} {ps : List PyData} {its : List Value}, DpAll (fgX X) H xs ps → Vals xs its → PySem.W.EachIs (fun (u : Value) (b : V × PyData) => ∃ as, Reads s.heap u b.2 as) its (xs.zip ps) := by
    intro xs ps its h
    induction xs generalizing ps its with
    | nil => intro r; cases h; cases r; exact .nil
    | cons x xs ih => intro r; cases h with | cons h1 h2 => cases r with | cons r1 r2 => exact .cons (Dp.reads I _ _ _ h1 r1) (ih h2 r2)
  have e3 : ∀ {out : List Value} {bs : List (V × PyData)}, PySem.W.EachIs (fun (u : Value) (b : V × PyData) => RelV b.1 u) out bs → Vals (bs.map (·.1)) out := by
    intro out bs h
    induction h with
    | nil => exact .nil
    | cons h _ ih => exact .cons h ih
  have hlen : (xs.zip ps).length = xs.length := by
    have := congrArg List.length z1
    rw [List.length_map] at this
    exact this
  refine PySem.W.sorted_data (vs := its) (bs := xs.zip ps) (enc := fun b : V × PyData => b.2) hl.isList (e1 hp rv) (e2 hp rv) (by rw [z2]; exact hal) (by rw [z2]; exact hso) (by rw [hlen]; exact hz) (fun b hb => ?_) fun out ol oe => ?_
  · have hb2 : b.2 ∈ ps := by rw [← z2]; exact List.mem_map_of_mem hb
    have := hdp b.2 hb2
    omega
  · obtain ⟨ep, he'⟩ := PyProof.Rows.sortedAll_at s.heap its out.toArray
    have lz : (((xs.zip ps).mergeSort (PySem.W.dataLe false (·.2))).map (·.1)).length ≤ sizeLine := by
      rw [List.length_map, List.length_mergeSort, hlen]
      exact hz
    exact ⟨.ref _, _, I.laid (t' := s.toks) (o := .lst (((xs.zip ps).mergeSort (PySem.W.dataLe false (·.2))).map (·.1))) (fun _ _ => PyProof.Rows.sortedAll_old) (Nat.le_succ _) ⟨lz, out, ep, e3 oe, he'⟩, rfl, q _ (I.hok.fresh (Nat.le_succ _))⟩
theorem toPs_map {S : Sto} : ∀ {ds : List D} {ps : List PyData}, toPs S ds = some ps → ds.map (fun d => (toP S d).getD .none) = ps
  | [], _, h => by cases h; rfl
  | d :: ds, ps, h => by
    have h : (match toPW (refP S 8) d, toPsW (refP S 8) ds with
      | some p, some ps => some (p :: ps)
      | _, _ => none) = some ps := h
    cases e1 : toPW (refP S 8) d with
    | none => rw [e1] at h; cases h
    | some p1 =>
      cases e2 : toPsW (refP S 8) ds with
      | none => rw [e1, e2] at h; cases h
      | some qs =>
        rw [e1, e2] at h
        cases h
        rw [List.map_cons, toPs_map (ds := ds) e2]
        show (toPW (refP S 8) d).getD .none :: qs = _
        rw [e1]
        rfl
theorem sort_rp {K : Fg} {μ : List Addr} {H : Hp} {S : Sto} {ds : List D} {vs : List V} {ps : List PyData} (r : RpA K μ H ds vs) (h : toPs S ds = some ps) :
    RpA K μ H (ds.mergeSort (PySem.W.dataLe false fun d => (toP S d).getD .none)) (((vs.zip ps).mergeSort (PySem.W.dataLe false (·.2))).map (·.1)) := by
  have hm := toPs_map h
  -- the pairs of a datum and its value
  have hz : ∀ {ds : List D} {vs : List V}, RpA K μ H ds vs → (ds.zip vs).map (·.1) = ds ∧ (ds.zip vs).map (·.2) = vs ∧ ∀ t ∈ ds.zip vs, Rp K μ H t.1 t.2 := by
    intro ds
    induction ds with
    | nil => intro vs r; rw [show vs = [] from r]; exact ⟨rfl, rfl, fun _ h => nomatch h⟩
    | cons d ds ih =>
      intro vs r
      obtain ⟨v, r', e, h1, h2⟩ := r
      subst e
      obtain ⟨i1, i2, i3⟩ := ih h2
      rw [List.zip_cons_cons, List.map_cons, List.map_cons, i1, i2]
      refine ⟨rfl, rfl, fun t ht => ?_⟩
      rcases List.mem_cons.mp ht with rfl | ht
      · exact h1
      · exact i3 t ht
  obtain ⟨z1, z2, z3⟩ := hz r
  have build : ∀ ts : List (D × V), (∀ t ∈ ts, Rp K μ H t.1 t.2) → RpA K μ H (ts.map (·.1)) (ts.map (·.2)) := by
    intro ts
    induction ts with
    | nil => intro _; exact rfl
    | cons t ts ih => intro h; exact .cons (h t List.mem_cons_self) (ih fun u hu => h u (List.mem_cons_of_mem _ hu))
  have l1 : ds.mergeSort (PySem.W.dataLe false fun d => (toP S d).getD .none) = ((ds.zip vs).mergeSort (PySem.W.dataLe false fun t : D × V => (toP S t.1).getD .none)).map (·.1) := by
    have q := List.map_mergeSort (r := PySem.W.dataLe false fun t : D × V => (toP S t.1).getD .none) (s := PySem.W.dataLe false fun d : D => (toP S d).getD .none) (f := fun t : D × V => t.1) (l := ds.zip vs) (fun a _ b _ => rfl)
    rw [z1] at q
    exact q.symm
  have l2 : (vs.zip ps) = (ds.zip vs).map fun t => (t.2, (toP S t.1).getD .none) := by
    rw [← hm]
    clear hm h z1 z2 z3 l1
    induction ds generalizing vs with
    | nil => rw [show vs = [] from r]; rfl
    | cons d ds ih =>
      obtain ⟨v, r', e, h1, h2⟩ := r
      subst e
      rw [List.map_cons, List.zip_cons_cons, List.zip_cons_cons, List.map_cons, ih h2]
  have l3 : (vs.zip ps).mergeSort (PySem.W.dataLe false (·.2)) = ((ds.zip vs).mergeSort (PySem.W.dataLe false fun t : D × V => (toP S t.1).getD .none)).map fun t => (t.2, (toP S t.1).getD .none) := by
    have q := List.map_mergeSort (r := PySem.W.dataLe false fun t : D × V => (toP S t.1).getD .none) (s := PySem.W.dataLe false fun t : V × PyData => t.2) (f := fun t : D × V => (t.2, (toP S t.1).getD .none)) (l := ds.zip vs) (fun a _ b _ => rfl)
    rw [l2]
    exact q.symm
  rw [l1, l3, List.map_map]
  exact build _ fun t ht => z3 t (List.mem_mergeSort.mp ht)
/-- sorted(d), d a dict whose keys are texts -/
def rSortK (K : Fg) : List V → Hp → VK → Prop := fun vs H Q => ∃ (a : Addr) (kvs : List (Key × V)) (ks : List Str), vs = [V.ref a] ∧ Rd H a (.dK kvs) ∧ kvs.map (·.1) = ks.map Sum.inr ∧
  ∀ l, H l = none → Q (.ref l) (upd H l (.lst ((ks.mergeSort (PySem.W.dataLe false PyData.str)).map V.str)))
theorem strs_each {h : Heap} {a : Addr} : ∀ {us : List Value} {ks : List Str}, StrsAre us ks → PySem.W.EachIs (fun (u : Value) (b : Str) => RelV (.str b) u) us ks ∧ PySem.W.EachIs (fun (u : Value) (b : Str) => ∃ as, Reads h u (.str b) as ∧ a ∉ as) us ks := by
  intro us ks h
  induction h with
  | nil => exact ⟨.nil, .nil⟩
  | cons y t _ ih => exact ⟨.cons ⟨_, rfl⟩ ih.1, .cons ⟨[], .str _ _, fun h => nomatch h⟩ ih.2⟩
theorem cr_sortK {X : Cx} (hcalm : X.calm = true) (hu : X.A.units + 70 < cLine) : CallR X (.builtin "sorted") (rSortK (fgX X)) := by
  intro pins s σ H xs us Q I r q
  obtain ⟨a, kvs, ks, ex, hd, hks, q⟩ := q
  subst ex
  obtain ⟨u, eu, rx⟩ := vals1 r
  subst eu
  cases rx
  obtain ⟨z, lo, vs, rel, dd⟩ := dk_rd I.hok hd
  obtain ⟨ep, hat⟩ := dd.dictAt
  have hkeys : vs.map (·.1) = ks.map Sum.inr := rel.keys.symm.trans hks
  have hl : vs.length = ks.length := by
    have e := congrArg List.length hkeys
    rw [List.length_map, List.length_map] at e
    exact e
  have h16 : vs.length ≤ sizeLine := by rw [← rel.length]; exact z
  refine Calls.call_function_entry PyProof.Rows.kind_sorted PyProof.Rows.plain_sorted PyProof.Rows.entry_sorted (PyProof.Rows.args_sorted1 _) ?_
  unfold Builtin.«sorted»
  refine wpAny_bind (m := checkCount "sorted" 1 1 _) (wpAny_pure ?_)
  refine wpAny_bind (PySem.W.kdu_collect (A := X.A.in1) (PySem.W.kdl_dict (knd := mixKind X.prog X.w) (kvs := vs) (ep := ep) lo) (I.ok.hd hcalm) hat h16 fun h' tk acc hk hacc => ?_)
  have hal : acc.toList.length = ks.length := by rw [Array.length_toList, hacc.1, hl]
  have hS : StrsAre acc.toList ks := strs_at hal fun j v e => by
    obtain ⟨k, x, e1, e2⟩ := hacc.2 j v (by rw [← Array.getElem?_toList]; exact e)
    have e3 : (vs.map (·.1))[j]? = some k := by rw [List.getElem?_map, e1]; all_goals rfl
    rw [hkeys, List.getElem?_map] at e3
    cases e4 : ks[j]? with
    | none => rw [e4] at e3; cases e3
    | some y =>
      rw [e4] at e3
      have e5 : Sum.inr y = k := Option.some.inj e3
      subst e5
      obtain ⟨t, ev⟩ := Value.isStrOf_shape (x := y) (v := v) e2
      exact ⟨y, t, rfl, ev⟩
  have I1 : Inv X pins σ H { s with heap := h', toks := tk } := I.kept hk
  refine wpAny_bind (wpAny_newList ?_ (by rw [hal, ← hl]; exact h16))
  have hoL : (h'.push (seqObj "list" acc.toList.toArray 0)).get? h'.objs.size = some (seqObj "list" acc.toList.toArray 0) := Heap.get?_push_size _ rfl
  show wpAny _ _ _ _ _ { s with heap := h'.push (seqObj "list" acc.toList.toArray 0), toks := tk }
  obtain ⟨w1, w2⟩ := strs_each (h := h'.push (seqObj "list" acc.toList.toArray 0)) hS
  refine wpAny_bind (wpAny_holding (PySem.W.list_sort_data (s := { s with heap := h'.push (seqObj "list" acc.toList.toArray 0), toks := tk }) (enc := PyData.str) hoL w1 w2 (.of fun _ _ => by simp [PySem.W.alike]) (.others fun b => ⟨fun h => PyData.noConfusion h, fun _ h => PyData.noConfusion h⟩) (by rw [← hl]; exact h16) (fun b hb => ?_) fun out ol oe => ?_))
  · show X.A.units + 2 + (PyData.str b).depth < cLine
    have : (PyData.str b).depth ≤ 64 := by simp [PyData.depth]
    omega
  · obtain ⟨e', he'⟩ := PyProof.Rows.sortedHeap_at (vs := acc.toList) (out := out.toArray) hoL
    have hlen : ((ks.mergeSort (PySem.W.dataLe false PyData.str)).map V.str).length ≤ sizeLine := by
      rw [List.length_map, List.length_mergeSort, ← hl]
      exact h16
    have hv : ∀ {out : List Value} {bs : List Str}, PySem.W.EachIs (fun (u : Value) (b : Str) => RelV (.str b) u) out bs → Vals (bs.map V.str) out := by
      intro out bs h
      induction h with
      | nil => exact .nil
      | cons h _ ih => exact .cons h ih
    refine wpAny_pure ⟨_, rfl, .ref h'.objs.size, upd H h'.objs.size (.lst ((ks.mergeSort (PySem.W.dataLe false PyData.str)).map V.str)), I1.laid (t' := tk) (fun b u e => ?_) (Nat.le_refl _)
      (show ObjOk X.prog X.w _ _ _ (.lst ((ks.mergeSort (PySem.W.dataLe false PyData.str)).map V.str)) from ⟨hlen, out, e', hv oe, he'⟩), rfl, q _ (I1.hok.fresh (Nat.le_refl _))⟩
    have hb : b < h'.objs.size := Heap.lt_size e
    rw [PyProof.Rows.sortedHeap_old (Nat.ne_of_lt hb) (by rw [size_push']; exact Nat.lt_succ_of_lt hb)]
    exact Heap.get?_push_of_some _ e
theorem cr_sorted {X : Cx} (hcalm : X.calm = true) (hu : X.A.units + 70 < cLine) : CallR X (.builtin "sorted") (fun vs H Q => rSortD (fgX X) vs H Q ∨ rSortK (fgX X) vs H Q) := by
  intro pins s σ H xs us Q I r q
  rcases q with q | q
  · exact cr_sortD hu _ _ _ _ _ _ _ I r q
  · exact cr_sortK hcalm hu _ _ _ _ _ _ _ I r q
theorem strKeys_map : ∀ {kvs : List (Key × D)} {ds : List D}, strKeys kvs = some ds → ∃ ks : List Str, kvs.map (·.1) = ks.map Sum.inr ∧ ds = ks.map D.str
  | [], _, h => by cases h; exact ⟨[], rfl, rfl⟩
  | (.inr x, d) :: r, ds, h => by
    have h : (strKeys r).map (D.str x :: ·) = some ds := h
    cases e : strKeys r with
    | none => rw [e] at h; cases h
    | some es =>
      rw [e] at h
      cases h
      obtain ⟨ks, h1, h2⟩ := strKeys_map e
      exact ⟨x :: ks, by rw [List.map_cons, List.map_cons, h1], by rw [List.map_cons, h2]⟩
  | (.inl _, _) :: _, _, h => nomatch h
theorem toPs_strs {S : Sto} : ∀ (ks : List Str), toPs S (ks.map D.str) = some (ks.map PyData.str)
  | [] => rfl
  | k :: ks => by
    show (match toPW (refP S 8) (D.str k), toPsW (refP S 8) (ks.map D.str) with
      | some p, some ps => some (p :: ps)
      | _, _ => none) = _
    have := toPs_strs (S := S) ks
    unfold toPs at this
    rw [this]
    rfl
theorem RpA.strs {K : Fg} {μ : List Addr} {H : Hp} : ∀ ks : List Str, RpA K μ H (ks.map D.str) (ks.map V.str)
  | [] => rfl
  | _ :: ks => .cons rfl (RpA.strs ks)
theorem RpK.keysD {K : Fg} {μ : List Addr} {H : Hp} : ∀ {kvs : List (Key × D)} {vs : List (Key × V)}, RpK K μ H kvs vs → vs.map (·.1) = kvs.map (·.1)
  | [], _, h => by rw [show _ = [] from h]; rfl
  | _ :: _, _, ⟨_, _, h1, _, h3⟩ => by rw [h1, List.map_cons, List.map_cons, RpK.keysD h3]
theorem sq_sorted (hb : ("sorted" : Str) ∈ p.B) (hg : p.sc.names.lookup ("sorted" : Str) = some .globalImplicit) (hst : notStar e = true) (ha : SdR p e cr) : SdQ p (.Call (.Name "sorted" q) [e] [] pos) (.sorted cr) := fun X C g =>
  (pe_callB (cr_sorted g.calm (by have := g.un; omega)) (gl_of g hg) (g.blt _ hb) (by decide +kernel) (pa_cons (ha X C g) pa_nil (star_cons hst [] _)) (by decide) (by decide) (star_cons hst [] _) rfl).pq fun σ H Q ⟨μ, ρ, S, he, hs, h⟩ => by
    unfold evQ at h
    refine ⟨μ, ρ, S, he, hs, h.bind.imp fun x S1 μ1 H1 _ e1 s1 h1 v rv => ?_⟩
    obtain ⟨ds, eds, h1⟩ := h1.may
    unfold soOf at eds
    cases el : lsOf S1 x with
    | some ds0 =>
      rw [el] at eds
      cases eds
      obtain ⟨a, vs, rfl, h2, h3, h4⟩ := ls_rv s1 rv el
      unfold sortD at h1
      cases ep : toPs S1 ds with
      | none => rw [ep] at h1; exact h1.elim
      | some ps =>
        rw [ep] at h1
        obtain ⟨⟨z1, z2, z3⟩, h1⟩ := Po.ask h1
        refine .inl ⟨a, vs, ps, rfl, h2, toPs_dp s1 h3 ep, z1, z2, z3, by rw [← h3.length]; exact h4, fun l hl => ?_⟩
        have hr := sort_rp h3 ep
        obtain ⟨n1, n2⟩ := own_new s1 hr hl
        exact h1 μ1 _ (s1.fresh hl _) (s1.freshOk hl _) l _ (e1.alive _ hl) upd_same n1 n2 (by rw [List.length_mergeSort]; exact h4)
    | none =>
      rw [el] at eds
      cases ed : dicOf S1 x with
      | none => rw [ed] at eds; cases eds
      | some kvs =>
        rw [ed] at eds
        obtain ⟨ks, k1, rfl⟩ := strKeys_map eds
        obtain ⟨a, vs, rfl, h2, h3, h4, _⟩ := dic_rv s1 rv ed
        unfold sortD at h1
        rw [toPs_strs] at h1
        obtain ⟨⟨z1, z2, z3⟩, h1⟩ := Po.ask h1
        refine .inr ⟨a, vs, ks, rfl, h2, h3.keysD.trans k1, fun l hl => ?_⟩
        have e1' : (ks.map D.str).mergeSort (PySem.W.dataLe false fun d => (toP S1 d).getD .none) = (ks.mergeSort (PySem.W.dataLe false PyData.str)).map D.str :=
          (List.map_mergeSort (r := PySem.W.dataLe false PyData.str) (s := PySem.W.dataLe false fun d : D => (toP S1 d).getD .none) (f := D.str) (l := ks) (fun a _ b _ => rfl)).symm
        rw [e1'] at h1
        have hr : RpA (fgX X) μ1 H1 ((ks.mergeSort (PySem.W.dataLe false PyData.str)).map D.str) ((ks.mergeSort (PySem.W.dataLe false PyData.str)).map V.str) := RpA.strs _
        obtain ⟨n1, n2⟩ := own_new s1 hr hl
        have hlen : kvs.length = ks.length := by
          have := congrArg List.length k1
          rw [List.length_map, List.length_map] at this
          exact this
        exact h1 μ1 _ (s1.fresh hl _) (s1.freshOk hl _) l _ (e1.alive _ hl) upd_same n1 n2 (by rw [List.length_map, List.length_mergeSort, ← hlen]; exact h4)
/-- sorted(set(xs)), xs a list of ints -/
theorem intsOf_map : ∀ {ds : List D} {ns : List Int}, intsOf ds = some ns → ds = ns.map D.int
  | [], _, h => by cases h; rfl
  | .int i :: r, _, h => by
    have h : (intsOf r).map (i :: ·) = some _ := h
    cases e : intsOf r with
    | none => rw [e] at h; cases h
    | some ns =>
      rw [e] at h
      cases h
      rw [List.map_cons, ← intsOf_map e]
  | .non :: _, _, h => nomatch h
  | .bl _ :: _, _, h => nomatch h
  | .str _ :: _, _, h => nomatch h
  | .tup _ :: _, _, h => nomatch h
  | .fix _ :: _, _, h => nomatch h
  | .ref _ :: _, _, h => nomatch h
theorem RpA.ints {K : Fg} {μ : List Addr} {H : Hp} : ∀ ks : List Int, RpA K μ H (ks.map D.int) (ks.map V.int)
  | [] => rfl
  | _ :: ks => .cons rfl (RpA.ints ks)
theorem RpA.intsV {K : Fg} {μ : List Addr} {H : Hp} : ∀ {ks : List Int} {vs : List V}, RpA K μ H (ks.map D.int) vs → vs = ks.map V.int
  | [], _, h => h
  | _ :: ks, _, ⟨_, _, e, h1, h2⟩ => by
    subst e
    rw [List.map_cons, RpA.intsV h2]
    exact congrArg (· :: _) h1
theorem sq_sset {q2 : Pos} {p2 : Pos} (hb : ("sorted" : Str) ∈ p.B) (hg : p.sc.names.lookup ("sorted" : Str) = some .globalImplicit) (hb2 : ("set" : Str) ∈ p.B) (hg2 : p.sc.names.lookup ("set" : Str) = some .globalImplicit) (hst : notStar e = true) (ha : SdR p e cr) : SdQ p (.Call (.Name "sorted" q) [.Call (.Name "set" q2) [e] [] p2] [] pos) (.sset cr) := fun X C g =>
  (pe_callB (cr_sortedSet g.calm) (gl_of g hg) (g.blt _ hb) (by decide +kernel) (pa_cons (pe_callTy (cr_setL g.calm) (gl_of g hg2) (g.blt _ hb2) (by decide +kernel) (pa_cons (ha X C g) pa_nil (star_cons hst [] _)) (by decide) (by decide) (star_cons hst [] _) rfl) pa_nil (star_cons rfl [] _)) (by decide) (by decide) (star_cons rfl [] _) rfl).pq fun σ H Q ⟨μ, ρ, S, he, hs, h⟩ => by
    unfold evQ at h
    refine ⟨μ, ρ, S, he, hs, h.bind.imp fun x S1 μ1 H1 _ e1 s1 h1 v rv => ?_⟩
    obtain ⟨ds, eds, h1⟩ := h1.may
    obtain ⟨ns, ens, k1⟩ := h1.may
    clear h1
    obtain ⟨z, k2⟩ := k1.ask
    clear k1
    obtain ⟨a, vs, rfl, h2, h3, h4⟩ := ls_rv s1 rv eds
    obtain rfl := intsOf_map ens
    obtain rfl := RpA.intsV h3
    refine ⟨a, ns, rfl, h2, Nat.lt_trans (Nat.succ_lt_succ z) (by decide), fun p c hp hc => ?_⟩
    refine ⟨p, _, c, rfl, upd_same, by omega, fun out l o1 o2 o3 hl => ?_⟩
    have eo : out = sortU ns := ris_ext o1 (sortU_ris ns) fun y => by rw [o2, mem_sortU]; simp
    subst eo
    have s2 := s1.freshOk hp (SetO X.w p (fun j => decide (j ∈ ns)) c)
    have g2 := s1.fresh hp (SetO X.w p (fun j => decide (j ∈ ns)) c)
    obtain ⟨n1, n2⟩ := own_new s2 (RpA.ints (sortU ns)) hl
    refine k2 μ1 _ (g2.trans (s2.fresh hl _)) (s2.freshOk hl _) l _ (e1.alive _ (g2.alive _ hl)) upd_same n1 n2 ?_
    rw [List.length_map, o3]
    rw [sizeLine_eq]
    omega

/-! ### list(range(..)) -/
theorem rgD_rp {K : Fg} {μ : List Addr} {H : Hp} (i j : Int) : RpA K μ H (rgD i j) (rgV i j) := by
  unfold rgD rgV
  generalize (List.range (j - i).toNat) = l
  induction l with
  | nil => exact rfl
  | cons k l ih => exact .cons rfl ih
theorem rgD_len (i j : Int) : (rgD i j).length = (j - i).toNat := by unfold rgD; rw [List.length_map, List.length_range]
theorem sq_listRg1 {q2 pos2 : Pos} (hb : ("list" : Str) ∈ p.B) (hg : p.sc.names.lookup ("list" : Str) = some .globalImplicit) (hb2 : ("range" : Str) ∈ p.B) (hg2 : p.sc.names.lookup ("range" : Str) = some .globalImplicit) (hst : notStar a = true) (ha : SdE p a ca) :
    SdQ p (.Call (.Name "list" q) [.Call (.Name "range" q2) [a] [] pos2] [] pos) (.listRg (.lit (.int 0)) ca) := fun X C g =>
  (pe_listRg g.calm (gl_of g hg) (g.blt _ hb) (prg_1 (gl_of g hg2) (g.blt _ hb2) (ha X C g) (star_cons hst [] _)) rfl).pq fun σ H Q ⟨μ, ρ, S, he, hs, h⟩ => by
    have h0 : evE C (.lit (.int 0)) ρ S = Res.ok (D.int 0) S := by rw [evE]
    unfold evQ at h
    rw [h0] at h
    refine ⟨μ, ρ, S, he, hs, Po.imp (Po.bind (r := evE C ca ρ S) h) fun y S1 μ1 H1 _ e1 s1 h1 v rv => ?_⟩
    cases y with
    | int j =>
      obtain ⟨z, h1⟩ := Po.ask (show Po (fgX X) μ1 H1 (ask (RgOk 0 j) (Res.ok (rgD 0 j) S1)) _ from h1)
      refine ⟨j, rv, z, fun l hl => ?_⟩
      obtain ⟨n1, n2⟩ := own_new s1 (rgD_rp 0 j) hl
      exact h1 μ1 _ (s1.fresh hl _) (s1.freshOk hl _) l _ (e1.alive _ hl) upd_same n1 n2 (by rw [rgD_len, sizeLine_eq]; have := z.2.2.2.2; omega)
    | _ => exact (show False from h1).elim
theorem sq_listRg2 {q2 pos2 : Pos} (hb : ("list" : Str) ∈ p.B) (hg : p.sc.names.lookup ("list" : Str) = some .globalImplicit) (hb2 : ("range" : Str) ∈ p.B) (hg2 : p.sc.names.lookup ("range" : Str) = some .globalImplicit) (hst : notStar a = true) (hst2 : notStar b = true) (ha : SdE p a ca) (hb' : SdE p b cb) :
    SdQ p (.Call (.Name "list" q) [.Call (.Name "range" q2) [a, b] [] pos2] [] pos) (.listRg ca cb) := fun X C g =>
  (pe_listRg g.calm (gl_of g hg) (g.blt _ hb) (prg_2 (gl_of g hg2) (g.blt _ hb2) (ha X C g) (hb' X C g) (star_cons hst [b] _) (star_cons hst2 [] _) (star_any _ _ (show [b].all notStar = true by rw [List.all_cons, hst2]; rfl))) rfl).pq fun σ H Q ⟨μ, ρ, S, he, hs, h⟩ => by
    unfold evQ at h
    refine ⟨μ, ρ, S, he, hs, h.bind.imp fun x S1 μ1 H1 _ e1 s1 h1 v rv => ?_⟩
    refine ⟨μ1, ρ, S1, he.mono e1, s1, h1.bind.imp fun y S2 μ2 H2 _ e2 s2 h2 u ru => ?_⟩
    cases x with
    | int i =>
      cases y with
      | int j =>
        obtain ⟨z, h2⟩ := Po.ask (show Po (fgX X) μ2 H2 (ask (RgOk i j) (Res.ok (rgD i j) S2)) _ from h2)
        refine ⟨i, j, rv, ru, z, fun l hl => ?_⟩
        obtain ⟨n1, n2⟩ := own_new s2 (rgD_rp i j) hl
        exact h2 μ2 _ (s2.fresh hl _) (s2.freshOk hl _) l _ (e1.alive _ (e2.alive _ hl)) upd_same n1 n2 (by rw [rgD_len, sizeLine_eq]; have := z.2.2.2.2; omega)
      | _ => exact (show False from h2).elim
    | _ => exact (show False from h2).elim
end

/-! ### what is walked -/
/-- the walk of t's items, as long as nothing of the walked list is changed -/
def ItOk (K : Fg) (μ₀ : List Addr) (H₀ : Hp) (t : Itv) (J : It) : Prop := ∀ μ H S, Ext K μ₀ H₀ μ H → StOk K μ H S → t.still S → (∀ i, i < t.items.length → J.go i H ∧ ∀ x H', J.yld i H x H' → H' = H ∧ ∃ d, t.items[i]? = some d ∧ Rp K μ H d x) ∧ J.stop t.items.length H
def tI (K : Fg) (f : En → Sto → Res Itv) : TI := fun σ H R => ∃ μ ρ S, EnvOk K μ H ρ σ ∧ StOk K μ H S ∧ Po K μ H (f ρ S) fun t S' μ' H' => ∀ J, ItOk K μ' H' t J → R J H'
def SdI (p : Pl) (tg e : Expr) (c : CI) : Prop := ∀ X C, Good X p C → PI X tg e (tI (fgX X) (evI C c))
/-- a list or a tuple, whichever comes -/
def iSeq (K : Fg) (tl : TE) : TI := fun σ H R => tl σ H fun x H1 => ∃ a, x = .ref a ∧ (((∃ xs, SqL K H1 a xs) ∧ R (Itl K a) H1) ∨ ((∃ xs, SqT K H1 a xs) ∧ R (Itt K a) H1))
/-- .. or a text -/
def iSeqS (K : Fg) (tl : TE) : TI := fun σ H R => tl σ H fun x H1 => (∃ a, x = .ref a ∧ (((∃ xs, SqL K H1 a xs) ∧ R (Itl K a) H1) ∨ ((∃ xs, SqT K H1 a xs) ∧ R (Itt K a) H1))) ∨ ∃ z, x = .str z ∧ R (Its z) H1
theorem pi_seqS {X : Cx} {tg l : Expr} {tl : TE} (hl : PE X l tl) : PI X tg l (iSeqS (fgX X) tl) := by
  refine ⟨fun pins s σ H R I h => ?_⟩
  refine thn (hl.run pins s σ H _ I h) fun v s1 ⟨x, H1, I1, r1, q1⟩ => ?_
  rcases q1 with ⟨a, e, q⟩ | ⟨z, e, q⟩
  · subst e
    cases r1
    rcases q with ⟨⟨xs, hq⟩, q⟩ | ⟨⟨xs, hq⟩, q⟩
    · obtain ⟨its, rv, p, hz⟩ := I1.list hq
      refine wpAny_pyIter_list p.isList ?_
      refine ⟨s1.heap.objs.size, [s1.heap.objs.size], _, _, H1, rfl, I1.kept (t' := s1.toks) fun b o e => Heap.get?_push_of_some _ e, turn_list a _, ⟨_, Heap.get?_push_size _ rfl, rfl, rfl⟩, fun b hb => ?_, q⟩
      have e : b = s1.heap.objs.size := by simpa using hb
      subst e
      exact I1.fpOk (Nat.le_refl _) (I1.hok.fresh (Nat.le_refl _))
    · obtain ⟨its, rv, p, hz⟩ := I1.tuple hq
      refine wpAny_pyIter_tuple (show s1.heap.IsTuple a its.toArray from p) ?_
      refine ⟨s1.heap.objs.size, [s1.heap.objs.size], _, _, H1, rfl, I1.kept (t' := s1.toks) fun b o e => Heap.get?_push_of_some _ e, turn_tuple a _, ⟨_, Heap.get?_push_size _ rfl, rfl, rfl⟩, fun b hb => ?_, q⟩
      have e : b = s1.heap.objs.size := by simpa using hb
      subst e
      exact I1.fpOk (Nat.le_refl _) (I1.hok.fresh (Nat.le_refl _))
  · subst e
    obtain ⟨t, rfl⟩ := r1
    cases ha : z.cps.all (· < 128)
    · exact wpAny_pyIter_wide ha (pi_one (tk := s1.toks) I1 _ (turn_str _ z t "str_iterator" (.inr rfl)) ⟨_, Heap.get?_push_size _ rfl, rfl, rfl⟩ q)
    · exact wpAny_pyIter_ascii ha (pi_one (tk := s1.toks) I1 _ (turn_str _ z t "str_ascii_iterator" (.inl rfl)) ⟨_, Heap.get?_push_size _ rfl, rfl, rfl⟩ q)
theorem its_ok {K : Fg} {μ : List Addr} {H : Hp} {z : Str} : (∀ i, i < (lettersD z).length → (Its z).go i H ∧ ∀ x H', (Its z).yld i H x H' → H' = H ∧ ∃ d, (lettersD z)[i]? = some d ∧ Rp K μ H d x) ∧ (Its z).stop (lettersD z).length H := by
  have hl : (lettersD z).length = z.cps.size := by
    unfold lettersD
    rw [List.length_map, Array.length_toList]
  refine ⟨fun i hi => ⟨by show i < z.cps.size; omega, fun x H' y => ?_⟩, by show z.cps.size ≤ _; omega⟩
  obtain ⟨e, c, ec, rfl⟩ := y
  refine ⟨e, .str ⟨#[c]⟩, ?_, rfl⟩
  unfold lettersD
  rw [List.getElem?_map, Array.getElem?_toList, ec]
  rfl
theorem pi_seq {X : Cx} {tg l : Expr} {tl : TE} (hl : PE X l tl) : PI X tg l (iSeq (fgX X) tl) := by
  refine ⟨fun pins s σ H R I h => ?_⟩
  refine thn (hl.run pins s σ H _ I h) fun v s1 ⟨x, H1, I1, r1, q1⟩ => ?_
  obtain ⟨a, e, q⟩ := q1
  subst e
  cases r1
  rcases q with ⟨⟨xs, hq⟩, q⟩ | ⟨⟨xs, hq⟩, q⟩
  · obtain ⟨its, rv, p, hz⟩ := I1.list hq
    refine wpAny_pyIter_list p.isList ?_
    refine ⟨s1.heap.objs.size, [s1.heap.objs.size], _, _, H1, rfl, I1.kept (t' := s1.toks) fun b o e => Heap.get?_push_of_some _ e, turn_list a _, ⟨_, Heap.get?_push_size _ rfl, rfl, rfl⟩, fun b hb => ?_, q⟩
    have e : b = s1.heap.objs.size := by simpa using hb
    subst e
    exact I1.fpOk (Nat.le_refl _) (I1.hok.fresh (Nat.le_refl _))
  · obtain ⟨its, rv, p, hz⟩ := I1.tuple hq
    refine wpAny_pyIter_tuple (show s1.heap.IsTuple a its.toArray from p) ?_
    refine ⟨s1.heap.objs.size, [s1.heap.objs.size], _, _, H1, rfl, I1.kept (t' := s1.toks) fun b o e => Heap.get?_push_of_some _ e, turn_tuple a _, ⟨_, Heap.get?_push_size _ rfl, rfl, rfl⟩, fun b hb => ?_, q⟩
    have e : b = s1.heap.objs.size := by simpa using hb
    subst e
    exact I1.fpOk (Nat.le_refl _) (I1.hok.fresh (Nat.le_refl _))
theorem Ext.own {K : Fg} {μ μ' : List Addr} {H H' : Hp} (e : Ext K μ H μ' H') {a : Addr} {vs : List V} (h : H a = some (.lst vs)) (n : a ∉ μ) : SqL K H' a vs := .of (e.fr a _ h n)
section
variable {p : Pl} {a b e tg : Expr} {ca cb : CE} {cr : CR} {pos q : Pos}
theorem itl_ok {K : Fg} {μ : List Addr} {H : Hp} {a : Addr} {vs : List V} {ds : List D} (h : SqL K H a vs) (r : RpA K μ H ds vs) : (∀ i, i < ds.length → (Itl K a).go i H ∧ ∀ x H', (Itl K a).yld i H x H' → H' = H ∧ ∃ d, ds[i]? = some d ∧ Rp K μ H d x) ∧ (Itl K a).stop ds.length H := by
  have hl := r.length
  refine ⟨fun i hi => ⟨⟨vs, vs[i], h, List.getElem?_eq_getElem (by omega)⟩, fun x H' y => ⟨y.1, r.getV (y.2 vs h)⟩⟩, vs, h, by omega⟩
theorem itt_ok {K : Fg} {μ : List Addr} {H : Hp} {a : Addr} {vs : List V} {ds : List D} (h : SqT K H a vs) (r : RpA K μ H ds vs) : (∀ i, i < ds.length → (Itt K a).go i H ∧ ∀ x H', (Itt K a).yld i H x H' → H' = H ∧ ∃ d, ds[i]? = some d ∧ Rp K μ H d x) ∧ (Itt K a).stop ds.length H := by
  have hl := r.length
  refine ⟨fun i hi => ⟨⟨vs, vs[i], h, List.getElem?_eq_getElem (by omega)⟩, fun x H' y => ⟨y.1, r.getV (y.2 vs h)⟩⟩, vs, h, by omega⟩
theorem si_r (ha : SdR p e cr) : SdI p tg e (.r cr) := fun X C g => by
  refine ⟨fun pins s σ H R I h => (pi_seqS (ha X C g)).run pins s σ H R I ?_⟩
  obtain ⟨μ, ρ, S, he, hs, h⟩ := h
  unfold evI at h
  refine ⟨μ, ρ, S, he, hs, h.bind.imp fun r S1 μ1 H1 _ e1 s1 h1 v rv => ?_⟩
  obtain ⟨t, et, h1⟩ := h1.may
  have h1 := h1.at s1
  cases r with
  | own ds =>
    cases et
    obtain ⟨a, vs, rfl, k1, k2, k3, _⟩ := rv
    exact .inl ⟨a, rfl, .inl ⟨⟨vs, .of k1⟩, h1 _ fun μ H S x _ _ => itl_ok (x.own k1 k2) (k3.mono x)⟩⟩
  | val d =>
    cases d with
    | str z =>
      cases et
      exact .inr ⟨z, rv, h1 _ fun μ H S x _ _ => its_ok⟩
    | tup ds =>
      cases et
      obtain ⟨a, vs, rfl, k1, k2, _⟩ := rv
      exact .inl ⟨a, rfl, .inr ⟨⟨vs, k1.sq⟩, h1 _ fun μ H S x _ _ => itt_ok (x.tup _ _ k1).sq (k2.mono x)⟩⟩
    | fix ds =>
      cases et
      obtain ⟨a, vs, rfl, k1, k2, _⟩ := rv
      exact .inl ⟨a, rfl, .inl ⟨⟨vs, k1.sq⟩, h1 _ fun μ H S x _ _ => itl_ok (x.fix _ _ k1).sq (k2.mono x)⟩⟩
    | ref i =>
      have et : (sqOf S1 (.val (.ref i))).map (fun ds => (⟨ds, some i⟩ : Itv)) = some t := et
      cases es : sqOf S1 (.val (.ref i)) with
      | none => rw [es] at et; cases et
      | some ds =>
        rw [es] at et
        cases et
        obtain ⟨a, rfl, ea⟩ := rv
        obtain ⟨a', vs, e', k1, k2, _⟩ := sq_rv (r := .val (.ref i)) s1 ⟨a, rfl, ea⟩ es
        cases e'
        have k1 : SqL (fgX X) H1 a vs := k1.elim id fun z => by cases z.2
        refine .inl ⟨a, rfl, .inl ⟨⟨vs, k1⟩, h1 _ fun μ H S x st sl => ?_⟩⟩
        obtain ⟨us, u1, u2, _⟩ := st.lst (show S[i]? = some (.lst ds) from sl) (x.get ea)
        exact itl_ok (SqL.of u1) u2
    | _ => cases et
theorem itr_ok {K : Fg} {μ : List Addr} {H : Hp} (i j : Int) : (∀ k, k < (rgD i j).length → (Itr i (j - i).toNat).go k H ∧ ∀ x H', (Itr i (j - i).toNat).yld k H x H' → H' = H ∧ ∃ d, (rgD i j)[k]? = some d ∧ Rp K μ H d x) ∧ (Itr i (j - i).toNat).stop (rgD i j).length H := by
  rw [rgD_len]
  refine ⟨fun k hk => ⟨hk, fun x H' y => ⟨y.1, .int (i + (k : Nat)), ?_, y.2⟩⟩, Nat.le_refl _⟩
  unfold rgD
  rw [List.getElem?_map, List.getElem?_range hk]
  rfl
theorem si_rg1 {pos2 : Pos} (hb : ("range" : Str) ∈ p.B) (hg : p.sc.names.lookup ("range" : Str) = some .globalImplicit) (hst : notStar a = true) (ha : SdE p a ca) : SdI p tg (.Call (.Name "range" q) [a] [] pos) (.rg (.lit (.int 0)) ca) := fun X C g => by
  refine ⟨fun pins s σ H R I h => (pi_range1 (gl_of g hg) (g.blt _ hb) (pa_cons (ha X C g) pa_nil (star_cons hst [] _)) (star_cons hst [] _)).run pins s σ H R I ?_⟩
  obtain ⟨μ, ρ, S, he, hs, h⟩ := h
  have h0 : evE C (.lit (.int 0)) ρ S = Res.ok (D.int 0) S := by rw [evE]
  unfold evI at h
  rw [h0] at h
  refine ⟨μ, ρ, S, he, hs, Po.imp (Po.bind (r := evE C ca ρ S) h) fun y S1 μ1 H1 _ e1 s1 h1 v rv => ?_⟩
  cases y with
  | int j =>
    obtain ⟨z, h1⟩ := Po.ask (show Po (fgX X) μ1 H1 (ask (bd62 0 ∧ bd62 j) (Res.ok (⟨rgD 0 j, none⟩ : Itv) S1)) _ from h1)
    refine ⟨j, by rw [show v = V.int j from rv], z.2.1, z.2.2, ?_⟩
    have k := h1.at s1 (Itr 0 (j - 0).toNat) fun μ H S _ _ _ => itr_ok 0 j
    rw [Int.sub_zero] at k
    exact k
  | _ => exact (show False from h1).elim
theorem si_rg2 {pos2 : Pos} (hb : ("range" : Str) ∈ p.B) (hg : p.sc.names.lookup ("range" : Str) = some .globalImplicit) (hst : notStar a = true) (hst2 : notStar b = true) (ha : SdE p a ca) (hb' : SdE p b cb) : SdI p tg (.Call (.Name "range" q) [a, b] [] pos) (.rg ca cb) := fun X C g => by
  refine ⟨fun pins s σ H R I h => (pi_range2 (gl_of g hg) (g.blt _ hb) (pa_cons (ha X C g) (pa_cons (hb' X C g) pa_nil (star_cons hst2 [] _)) (star_cons hst [b] _)) (by rw [star_cons hst, star_cons hst2]; rfl) (star_cons hst2 [] _)).run pins s σ H R I ?_⟩
  obtain ⟨μ, ρ, S, he, hs, h⟩ := h
  unfold evI at h
  refine ⟨μ, ρ, S, he, hs, h.bind.imp fun x S1 μ1 H1 _ e1 s1 h1 v rv => ?_⟩
  refine ⟨μ1, ρ, S1, he.mono e1, s1, h1.bind.imp fun y S2 μ2 H2 _ e2 s2 h2 u ru => ?_⟩
  cases x with
  | int i =>
    cases y with
    | int j =>
      obtain ⟨z, h2⟩ := Po.ask (show Po (fgX X) μ2 H2 (ask (bd62 i ∧ bd62 j) (Res.ok (⟨rgD i j, none⟩ : Itv) S2)) _ from h2)
      exact ⟨i, j, by rw [show v = V.int i from rv, show u = V.int j from ru], ⟨z.1.1, z.1.2, z.2.1, z.2.2⟩, h2.at s2 _ fun μ H S _ _ _ => itr_ok i j⟩
    | _ => exact (show False from h2).elim
  | _ => exact (show False from h2).elim
theorem rgdD_len (i j : Int) : (rgdD i j).length = (i - j).toNat := by
  unfold rgdD
  rw [List.length_map, List.length_range]
theorem itrd_ok {K : Fg} {μ : List Addr} {H : Hp} (i j : Int) : (∀ k, k < (rgdD i j).length → (Itc i (-1) (i - j).toNat).go k H ∧ ∀ x H', (Itc i (-1) (i - j).toNat).yld k H x H' → H' = H ∧ ∃ d, (rgdD i j)[k]? = some d ∧ Rp K μ H d x) ∧ (Itc i (-1) (i - j).toNat).stop (rgdD i j).length H := by
  rw [rgdD_len]
  refine ⟨fun k hk => ⟨hk, fun x H' y => ⟨y.1, .int (i - (k : Nat)), ?_, ?_⟩⟩, Nat.le_refl _⟩
  · unfold rgdD
    rw [List.getElem?_map, List.getElem?_range hk]
    rfl
  · show x = V.int (i - (k : Nat))
    rw [y.2]
    congr 1
    omega
theorem si_rgd {pos2 p1 p2 : Pos} {k : Nat} (hb : ("range" : Str) ∈ p.B) (hg : p.sc.names.lookup ("range" : Str) = some .globalImplicit) (hst : notStar a = true) (hst2 : notStar b = true) (ha : SdE p a ca) (hb' : SdE p b cb) : SdI p tg (.Call (.Name "range" q) [a, b, .UnaryOp .USub (.Constant (.int 1) k p1) p2] [] pos) (.rgd ca cb) := fun X C g => by
  refine ⟨fun pins s σ H R I h => (pi_range3 (gl_of g hg) (g.blt _ hb) (pa_cons (ha X C g) (pa_cons (hb' X C g) (pa_cons (pe_un un_neg (pe_int (i := 1))) pa_nil rfl) (star_cons hst2 _ _)) (star_cons hst _ _)) (star_cons hst _ _) (by rw [star_cons hst2]; rfl)).run pins s σ H R I ?_⟩
  obtain ⟨μ, ρ, S, he, hs, h⟩ := h
  unfold evI at h
  refine ⟨μ, ρ, S, he, hs, h.bind.imp fun x S1 μ1 H1 _ e1 s1 h1 v rv => ?_⟩
  refine ⟨μ1, ρ, S1, he.mono e1, s1, h1.bind.imp fun y S2 μ2 H2 _ e2 s2 h2 u ru => ?_⟩
  cases x with
  | int i =>
    cases y with
    | int j =>
      obtain ⟨z, h2⟩ := Po.ask (show Po (fgX X) μ2 H2 (ask (bd62 i ∧ bd62 j) (Res.ok (⟨rgdD i j, none⟩ : Itv) S2)) _ from h2)
      exact ⟨1, rfl, i, j, -1, (i - j).toNat, by rw [show v = V.int i from rv, show u = V.int j from ru], .neg z.1.1 z.1.2 z.2.1 z.2.2, h2.at s2 _ fun μ H S _ _ _ => itrd_ok i j⟩
    | _ => exact (show False from h2).elim
  | _ => exact (show False from h2).elim
/-- tuple(range(..)), its object known to have no dict -/
def tTRg (tr : Slots → Hp → (Int → Int → Hp → Prop) → Prop) : TE := fun σ H Q => tr σ H fun i j H1 => RgOk i j ∧ NwT H1 Q (rgV i j)
theorem pe_tRg {X : Cx} {q pos : Pos} {rg : Expr} {tr : Slots → Hp → (Int → Int → Hp → Prop) → Prop} (cm : X.calm = true) (g1 : Gl X "tuple") (g2 : X.mg "tuple" = none) (hr : PRg X rg tr)
    (st : starEach [rg] X.env = (false, eval rg X.env) :: starEach [] X.env) : PE X (.Call (.Name "tuple" q) [rg] [] pos) (tTRg tr) := by
  constructor
  intro pins s σ H Q I h
  refine Call_ (ld_blt I g1 g2 boot_tuple ?_)
  refine PyProof.Rows.callWith_type1 (args_cons (thn (hr pins s σ H _ I h) ?_) st) st
  rintro x s1 ⟨r, i, j, t, u, v, H1, rfl, isr, J, ⟨⟨b1, b2, b3, b4, b5⟩, q⟩⟩
  refine args_nil (call_tuple_range (n := (j - i).toNat) (J.ok.hd cm) isr (small_one b1 b2 b3 b4) (rangeSize_nat i j) b5 fun hp tk acc keep items => ?_)
  have J2 : Inv X pins σ H1 { s1 with heap := hp, toks := tk } := J.kept keep
  have got := Heap.get?_push_size (h := hp) (o := ({ cls := .type "tuple", data := .seq acc } : Obj)) rfl
  have sz : (rgV i j).length ≤ sizeLine := by rw [rgV_length, sizeLine_eq]; omega
  refine ⟨.ref hp.objs.size, _, J2.laid (t' := tk) (o := .frz { cls := .type "tuple", data := .seq acc } (.tup (rgV i j))) (fun c o e => Heap.get?_push_of_some _ e) (Nat.le_refl _) ?_, rfl, q _ _ (J2.hok.fresh (Nat.le_refl _)) rfl rfl⟩
  exact ⟨got, sz, acc.toList, vals_rg items, by rw [Array.toArray_toList]; exact ⟨_, got, rfl, _, rfl⟩⟩
theorem own_tup {K : Fg} {μ : List Addr} {H : Hp} {S : Sto} {Q : VK} {i j : Int} (hs : StOk K μ H S) (z : RgOk i j) (h : Po K μ H (aggD .tuple (.own (rgD i j)) S) fun d _ μ' H' => ∀ v, Rp K μ' H' d v → Q v H') : NwT H Q (rgV i j) := fun l o hl c1 c2 => by
  have h : Po K μ H (Res.ok (D.tup (rgD i j)) S) _ := h
  have hz : (rgD i j).length ≤ sizeLine := by rw [rgD_len, sizeLine_eq]; have := z.2.2.2.2; omega
  exact h μ _ (hs.fresh hl _) (hs.freshOk hl _) _ (rp_tup hs hz (rgD_rp i j) hl c1 c2)
theorem sd_tupRg1 {q2 pos2 : Pos} (hb : ("tuple" : Str) ∈ p.B) (hg : p.sc.names.lookup ("tuple" : Str) = some .globalImplicit) (hb2 : ("range" : Str) ∈ p.B) (hg2 : p.sc.names.lookup ("range" : Str) = some .globalImplicit) (hst : notStar a = true) (ha : SdE p a ca) :
    SdE p (.Call (.Name "tuple" q) [.Call (.Name "range" q2) [a] [] pos2] [] pos) (.agg .tuple (.q (.listRg (.lit (.int 0)) ca))) := fun X C g =>
  (pe_tRg g.calm (gl_of g hg) (g.blt _ hb) (prg_1 (gl_of g hg2) (g.blt _ hb2) (ha X C g) (star_cons hst [] _)) rfl).pq fun σ H Q ⟨μ, ρ, S, he, hs, h⟩ => by
    have h0 : evE C (.lit (.int 0)) ρ S = Res.ok (D.int 0) S := by rw [evE]
    unfold evE at h
    unfold evR at h
    unfold evQ at h
    rw [h0] at h
    have h := Po.bind (Po.bind h)
    refine ⟨μ, ρ, S, he, hs, Po.imp (Po.bind (r := evE C ca ρ S) h) fun y S1 μ1 H1 _ e1 s1 h1 v rv => ?_⟩
    cases y with
    | int j =>
      obtain ⟨z, h1⟩ := Po.ask (show Po (fgX X) μ1 H1 (ask (RgOk 0 j) (Res.ok (rgD 0 j) S1)) _ from h1)
      exact ⟨j, rv, z, own_tup s1 z (Po.at (Po.at h1 s1) s1)⟩
    | _ => exact (show False from h1).elim
theorem sd_tupRg2 {q2 pos2 : Pos} (hb : ("tuple" : Str) ∈ p.B) (hg : p.sc.names.lookup ("tuple" : Str) = some .globalImplicit) (hb2 : ("range" : Str) ∈ p.B) (hg2 : p.sc.names.lookup ("range" : Str) = some .globalImplicit) (hst : notStar a = true) (hst2 : notStar b = true) (ha : SdE p a ca) (hb' : SdE p b cb) :
    SdE p (.Call (.Name "tuple" q) [.Call (.Name "range" q2) [a, b] [] pos2] [] pos) (.agg .tuple (.q (.listRg ca cb))) := fun X C g =>
  (pe_tRg g.calm (gl_of g hg) (g.blt _ hb) (prg_2 (gl_of g hg2) (g.blt _ hb2) (ha X C g) (hb' X C g) (star_cons hst [b] _) (star_cons hst2 [] _) (star_any _ _ (show [b].all notStar = true by rw [List.all_cons, hst2]; rfl))) rfl).pq fun σ H Q ⟨μ, ρ, S, he, hs, h⟩ => by
    unfold evE at h
    unfold evR at h
    unfold evQ at h
    have h := Po.bind (Po.bind h)
    refine ⟨μ, ρ, S, he, hs, h.bind.imp fun x S1 μ1 H1 _ e1 s1 h1 v rv => ?_⟩
    refine ⟨μ1, ρ, S1, he.mono e1, s1, h1.bind.imp fun y S2 μ2 H2 _ e2 s2 h2 u ru => ?_⟩
    cases x with
    | int i =>
      cases y with
      | int j =>
        obtain ⟨z, h2⟩ := Po.ask (show Po (fgX X) μ2 H2 (ask (RgOk i j) (Res.ok (rgD i j) S2)) _ from h2)
        exact ⟨i, j, rv, ru, z, own_tup s2 z (Po.at (Po.at h2 s2) s2)⟩
      | _ => exact (show False from h2).elim
    | _ => exact (show False from h2).elim
end
end PQ

/-! Targets, comprehensions. -/
namespace PQ
open PySem PySem.Spec PyProof.Rows L2
/-! ### targets -/
/-- σ' is σ with some of the slots `is` stored -/
inductive SetsIn (is : List Nat) : Slots → Slots → Prop
  | refl (σ : Slots) : SetsIn is σ σ
  | step {σ σ' : Slots} {i : Nat} {v : V} : i ∈ is → SetsIn is (σ.set i (some v)) σ' → SetsIn is σ σ'
theorem SetsIn.mono {is js : List Nat} (h : ∀ i, i ∈ is → i ∈ js) : ∀ {σ σ' : Slots}, SetsIn is σ σ' → SetsIn js σ σ'
  | _, _, .refl σ => .refl σ
  | _, _, .step m t => .step (h _ m) (SetsIn.mono h t)
theorem wipe_set {i : Nat} {o : Option V} : ∀ {vs : List Nat} {σ : Slots}, i ∈ vs → L2.wipe (σ.set i o) vs = L2.wipe σ vs
  | v :: vs, σ, h => by
    unfold L2.wipe
    by_cases hv : i ∈ vs
    · rw [wipe_set hv]
    · have e : i = v := by
        rcases List.mem_cons.mp h with e | h
        · exact e
        · exact absurd h hv
      subst e
      -- i is stored last, whatever stood there
      have key : ∀ (ws : List Nat) (σ : Slots), L2.wipe (σ.set i o) ws = (L2.wipe σ ws).set i (if i ∈ ws then none else o) ∨ (L2.wipe (σ.set i o) ws).set i none = (L2.wipe σ ws).set i none := by
        intro ws
        induction ws with
        | nil => intro σ; right; unfold L2.wipe; rw [List.set_set]
        | cons w ws ih =>
          intro σ
          right
          unfold L2.wipe
          have ih' : (L2.wipe (σ.set i o) ws).set i none = (L2.wipe σ ws).set i none := by
            rcases ih σ with h | h
            · rw [h, List.set_set]
            · exact h
          by_cases hw : w = i
          · subst hw; rw [List.set_set, List.set_set]; exact ih'
          · rw [List.set_comm _ _ hw, List.set_comm _ _ hw, ih']
      rcases key vs σ with h | h
      · rw [h, List.set_set]
      · exact h
theorem SetsIn.wipe {is : List Nat} : ∀ {σ σ' : Slots}, SetsIn is σ σ' → L2.wipe σ' is = L2.wipe σ is
  | _, _, .refl _ => rfl
  | _, _, .step m t => by rw [SetsIn.wipe t, wipe_set m]
theorem wipe_wipe : ∀ (vs : List Nat) (σ : Slots), (∀ us : List Nat, (∀ u, u ∈ vs → u ∈ us) → L2.wipe (L2.wipe σ vs) us = L2.wipe σ us)
  | [], σ, us, _ => rfl
  | v :: vs, σ, us, h => by
    show L2.wipe ((L2.wipe σ vs).set v none) us = _
    rw [wipe_set (h v List.mem_cons_self)]
    exact wipe_wipe vs σ us fun u hu => h u (List.mem_cons_of_mem _ hu)
def CN.slots : CN → List Nat
  | .nm i => [i]
  | .tup is => is
/-- a target takes a value -/
def tN (K : Fg) (g : CN) : TG := fun v σ H Q => ∃ μ ρ S d ρ', EnvOk K μ H ρ σ ∧ StOk K μ H S ∧ Rp K μ H d v ∧ bindN g d ρ S = some ρ' ∧ ∀ σ', EnvOk K μ H ρ' σ' → SetsIn g.slots σ σ' → Q σ' H
def SdN (p : Pl) (tg : Expr) (g : CN) : Prop := ∀ X C, Good X p C → X.fn = (fun _ => true) ∨ (∀ i ∈ g.slots, ∀ x, p.N[i]? = some x → p.sc.names.lookup x = some .local ∨ X.fn x = true) → PG X tg (tN (fgX X) g)
end PQ
namespace L2
open PySem PySem.Spec PyProof.Rows
theorem PG.pq {X : Cx} {e : Expr} {t t' : TG} (h : PG X e t) (q : ∀ v σ H Q, t' v σ H Q → t v σ H Q) : PG X e t' := ⟨fun pins s σ H v u Q I r hw => h.run pins s σ H v u Q I r (q v σ H Q hw)⟩
theorem PGs.pq {X : Cx} {e : List Expr} {t t' : TGs} (h : PGs X e t) (q : ∀ v σ H Q, t' v σ H Q → t v σ H Q) : PGs X e t' := ⟨fun pins s σ H v u Q I r hw => h.run pins s σ H v u Q I r (q v σ H Q hw)⟩
theorem PS.pq {X : Cx} {e : Stmt} {t t' : TS} (h : PS X e t) (q : ∀ D σ H, t' D σ H → t D σ H) : PS X e t' := ⟨fun pins s σ H D I hw => h.run pins s σ H D I (q D σ H hw)⟩
theorem PSs.pq {X : Cx} {e : List Stmt} {t t' : TS} (h : PSs X e t) (q : ∀ D σ H, t' D σ H → t D σ H) : PSs X e t' := ⟨fun pins s σ H D I hw => h.run pins s σ H D I (q D σ H hw)⟩
/-- an unpacked tuple or list -/
theorem pg_or {X : Cx} {e : Expr} {t u : TG} (h : PG X e t) (h' : PG X e u) : PG X e (fun v σ H Q => t v σ H Q ∨ u v σ H Q) :=
  ⟨fun pins s σ H v w Q I r hw => hw.elim (h.run pins s σ H v w Q I r) (h'.run pins s σ H v w Q I r)⟩
end L2
namespace PQ
open PySem PySem.Spec PyProof.Rows L2
section
variable {p : Pl} {pos q : Pos}
/-- a name's place, where it can be stored -/
def NameAt (p : Pl) (x : Str) (i : Nat) : Prop := p.N[i]? = some x ∧ Loc p.sc x
theorem sn_nm {x : Str} {i : Nat} (h : NameAt p x i) : SdN p (.Name x pos) (.nm i) := fun X C g hf => by
  have hl : X.fn x = true ∨ X.env.scope.names.lookup x = some .local := by
    rcases hf with hf | hf
    · rw [hf]; exact .inl rfl
    · rw [g.sc]; exact (hf i (List.mem_singleton.mpr rfl) x h.1).symm
  refine (pg_name (i := i) g.nd (by rw [g.N]; exact h.1) (by rw [g.sc]; exact h.2) hl).pq fun v σ H Q ⟨μ, ρ, S, d, ρ', he, hs, r, e, k⟩ => ?_
  cases e
  exact k _ (he.set r i) (.step (List.mem_singleton.mpr rfl) (.refl _))
inductive NamesAt (p : Pl) : List Expr → List Nat → Prop
  | nil : NamesAt p [] []
  | cons {x : Str} {i : Nat} {q : Pos} {es : List Expr} {is : List Nat} : NameAt p x i → NamesAt p es is → NamesAt p (.Name x q :: es) (i :: is)
def tNs (K : Fg) (is : List Nat) : TGs := fun vs σ H Q => ∃ μ ρ ds ρ', EnvOk K μ H ρ σ ∧ RpA K μ H ds vs ∧ setAll is ds ρ = some ρ' ∧ ∀ σ', EnvOk K μ H ρ' σ' → SetsIn is σ σ' → Q σ' H
theorem sn_all {es : List Expr} {is : List Nat} (h : NamesAt p es is) {X : Cx} {C : Orc} (g : Good X p C) (hf : X.fn = (fun _ => true) ∨ (∀ i ∈ is, ∀ x, p.N[i]? = some x → p.sc.names.lookup x = some .local ∨ X.fn x = true)) : PGs X es (tNs (fgX X) is) := by
  induction h with
  | nil =>
    refine pgs_nil.pq fun vs σ H Q ⟨μ, ρ, ds, ρ', he, r, e, k⟩ => ?_
    cases ds with
    | nil => cases e; exact ⟨r, k _ he (.refl _)⟩
    | cons d ds => cases e
  | @cons x i q es is hx _ ih =>
    have hl : X.fn x = true ∨ X.env.scope.names.lookup x = some .local := by
      rcases hf with hf | hf
      · rw [hf]; exact .inl rfl
      · rw [g.sc]; exact (hf i List.mem_cons_self x hx.1).symm
    have ih := ih (hf.imp id fun hf j hj => hf j (List.mem_cons_of_mem _ hj))
    refine (pgs_cons (pg_name (i := i) g.nd (by rw [g.N]; exact hx.1) (by rw [g.sc]; exact hx.2) hl) ih rfl).pq fun vs σ H Q ⟨μ, ρ, ds, ρ', he, r, e, k⟩ => ?_
    cases ds with
    | nil => cases e
    | cons d ds =>
      obtain ⟨v, r', e1, h1, h2⟩ := r
      subst e1
      exact ⟨v, r', rfl, μ, ρ.set i (some d), ds, ρ', he.set h1 i, h2, e, fun σ' he' hs' => k σ' he' (.step List.mem_cons_self (hs'.mono fun j hj => List.mem_cons_of_mem _ hj))⟩
theorem setAll_len : ∀ {is : List Nat} {ds : List D} {ρ ρ' : En}, setAll is ds ρ = some ρ' → ds.length = is.length
  | [], [], _, _, _ => rfl
  | [], _ :: _, _, _, h => by cases h
  | _ :: _, [], _, _, h => by cases h
  | i :: is, d :: ds, ρ, ρ', h => by
    have h : setAll is ds (ρ.set i (some d)) = some ρ' := h
    rw [List.length_cons, List.length_cons, setAll_len h]
theorem names_each {es : List Expr} {is : List Nat} (h : NamesAt p es is) (env : Env) : (assignEach es env).length = is.length ∧ (assignEach es env).findIdx? (·.1) = none := by
  induction h with
  | nil => exact ⟨rfl, rfl⟩
  | @cons x i q es is hx _ ih =>
    have e : assignEach (.Name x q :: es) env = (false, assign (.Name x q) env) :: assignEach es env := rfl
    rw [e]
    refine ⟨by rw [List.length_cons, List.length_cons, ih.1], ?_⟩
    rw [List.findIdx?_cons]
    show (if (false : Bool) = true then some 0 else Option.map (fun i => i + 1) (List.findIdx? (fun x => x.1) (assignEach es env))) = none
    rw [if_neg Bool.false_ne_true, ih.2]
    rfl
theorem sn_tup {es : List Expr} {is : List Nat} {k : Nat} (h : NamesAt p es is) : SdN p (.Tuple es k pos) (.tup is) := fun X C g hf => by
  have hs := sn_all h g hf
  obtain ⟨n1, n2⟩ := names_each h X.env
  refine (pg_or (pg_tup (n := is.length) g.calm hs n1 n2) (pg_unl (n := is.length) g.calm hs n1 n2)).pq fun v σ H Q ⟨μ, ρ, S, d, ρ', he, hs, r, e, k⟩ => ?_
  have e : (sqOf S (.val d)).bind (fun ds => setAll is ds ρ) = some ρ' := e
  cases es : sqOf S (.val d) with
  | none => rw [es] at e; cases e
  | some ds =>
    rw [es] at e
    have e : setAll is ds ρ = some ρ' := e
    obtain ⟨a, vs, rfl, h1, h2, _⟩ := sq_rv (r := .val d) hs r es
    have hl : vs.length = is.length := h2.length.symm.trans (setAll_len e)
    rcases h1 with h1 | ⟨h1, _⟩
    · exact .inr ⟨a, vs, rfl, h1, hl, μ, ρ, ds, ρ', he, h2, e, k⟩
    · exact .inl ⟨a, vs, rfl, h1.sq, hl, μ, ρ, ds, ρ', he, h2, e, k⟩
end

/-! ### comprehensions -/
theorem Good.blk {X : Cx} {p : Pl} {C : Orc} (g : Good X p C) (s : Shared) (H : Hp) (scope : Scope) (cl : List (Str × Addr)) (c : Addr) (fp : List Addr) : Good (X.blk s H scope (compEnvC scope cl c X.env) fp) { p with sc := relS scope p.sc } C :=
  ⟨g.calm, g.gu, g.nd, g.un, PassesOwn.never, g.N, by show relS scope X.env.scope = _; rw [g.sc], g.blt, g.glb, g.fn⟩
section
variable {K : Fg} {μ μ' μ1 : List Addr} {H H' H1 : Hp} {S : Sto}
/-- one's own list is changed -/
theorem own_le {D : Addr} {vs us : List V} (h : H D = some (.lst vs)) : Le K μ H μ (upd H D (.lst us)) := by
  refine ⟨fun _ _ h => h, fun a xs q => ?_, fun a xs q => ?_⟩
  · rcases q with ⟨o, q, c1, c2⟩ | q
    · exact .inl ⟨o, by rw [upd_ne (ne_of q h (by intro z; cases z))]; exact q, c1, c2⟩
    · exact .inr q
  · rcases q with ⟨o, q⟩ | q
    · exact .inl ⟨o, by rw [upd_ne (ne_of q h (by intro z; cases z))]; exact q⟩
    · exact .inr q
theorem own_ext {D : Addr} {o : HO} (e : Ext K μ1 H1 μ H) (h : H1 D = none) (q : Le K μ H μ (upd H D o)) : Ext K μ1 H1 μ (upd H D o) := by
  refine ⟨e.pre, fun a z => ?_, fun a u z m => ?_, fun a xs z => q.tup _ _ (e.tup _ _ z), fun a xs z => q.fix _ _ (e.fix _ _ z), fun a u vs z => by
    rw [upd_ne (ne_of_none z h)]
    exact e.frd a u vs z⟩
  · by_cases ha : a = D
    · rw [ha]; exact h
    · rw [upd_ne ha] at z; exact e.alive a z
  · rw [upd_ne (ne_of_none z h)]
    exact e.fr a u z m
theorem own_st {D : Addr} {vs us : List V} (hs : StOk K μ H S) (h : H D = some (.lst vs)) (n : D ∉ μ) : StOk K μ (upd H D (.lst us)) S :=
  ⟨hs.len, hs.nd, fun i o a e1 e2 => (hs.ob i o a e1 e2).le (own_le h) (upd_ne fun z => n (by rw [← z]; exact List.mem_of_getElem? e2))⟩
end
theorem Po.map {α β : Type} {K : Fg} {μ : List Addr} {H : Hp} {r : Res α} {g : α → β} {P : β → Sto → List Addr → Hp → Prop} (h : Po K μ H (r.bind fun a S' => .ok (g a) S') P) : Po K μ H r fun a S' μ' H' => P (g a) S' μ' H' := by
  cases r with
  | ok a S' => exact h
  | exc c fs S' => exact h
  | bad => exact h
theorem loopQ_len {C : Sto → Prop} {f : D → Sto → Res (Option D)} : ∀ {ds : List D} {S : Sto} {r : List D} {S' : Sto}, loopQ C f ds S = .ok r S' → r.length ≤ ds.length
  | [], S, r, S', h => by
    unfold loopQ PQ.ask at h
    split at h
    · cases h; exact Nat.le_refl _
    · cases h
  | d :: ds, S, r, S', h => by
    unfold loopQ PQ.ask at h
    split at h
    · obtain ⟨o, S1, _, h⟩ := bind_ok h
      obtain ⟨r', S2, e2, h⟩ := bind_ok h
      have := loopQ_len e2
      cases h
      cases o with
      | none => exact Nat.le_succ_of_le this
      | some x => exact Nat.succ_le_succ this
    · cases h
/-- a comprehension's loop; tt, te: its test, its element, by what they say -/
theorem comp_imp {K : Fg} {own : List Nat} {g : CN} {fi : En → Sto → Res Itv} {tt : TT} {te : TE} {body : En → Sto → Res (Option D)} {σ : Slots} {H : Hp} {Q : VK}
    (hsub : ∀ i, i ∈ g.slots → i ∈ own)
    (hb : ∀ (σ2 : Slots) (H2 : Hp) (μ : List Addr) (ρ : En) (S : Sto) (Dn : Addr) (acc : List V) (R : V → Hp → Prop) (R0 : Hp → Prop), EnvOk K μ H2 ρ σ2 → StOk K μ H2 S →
      Po K μ H2 (body ρ S) (fun o _ μ' H' => match o with | none => R0 H' | some x => ∀ v, Rp K μ' H' x v → R v H') → tt σ2 H2 fun b H3 => if b = true then te σ2 H3 R else R0 H3)
    (h : tQ K (fun ρ S => (fi ρ S).bind fun t S1 => ask (t.items.length ≤ sizeLine) (loopQ t.still (fun d S2 => may (bindN g d (wipeE ρ own) S2) fun ρ' => body ρ' S2) t.items S1)) σ H Q) :
    tLc (tI K fi) (tN K g) tt te own σ H Q := by
  obtain ⟨μ, ρ, S, he, hs, h⟩ := h
  refine ⟨μ, ρ, S, he, hs, h.bind.imp fun t S1 μ1 H1 _ e1 s1 h1 J hJ => ?_⟩
  obtain ⟨hz, h1⟩ := h1.ask
  intro Dn hD
  have hD0 : H Dn = none := e1.alive _ hD
  generalize hf : (fun d S2 => may (bindN g d (wipeE ρ own) S2) fun ρ' => body ρ' S2) = f at h1
  -- what is wanted of the whole list
  let P : List D → List Addr → Hp → Prop := fun ds μ' H' => ∀ a vs, H1 a = none → H' a = some (.lst vs) → a ∉ μ' → RpA K μ' H' ds vs → ds.length ≤ sizeLine → Q (.ref a) H'
  have h1 : Po K μ1 H1 (loopQ t.still f t.items S1) (fun ds _ μ' H' => P ds μ' H') := h1.imp fun ds S' μ' H' _ _ _ k a vs hn => k a vs (e1.alive _ hn)
  refine ⟨fun i m H => m = t.items.length - i ∧ i ≤ t.items.length ∧ ∃ μ S acc ds, Ext K μ1 H1 μ H ∧ StOk K μ H S ∧ H Dn = some (.lst acc) ∧ Dn ∉ μ ∧ RpA K μ H ds acc ∧ ds.length ≤ i ∧ Po K μ1 H1 (loopQ t.still f (t.items.drop i) S) (fun r _ μ' H' => P (ds ++ r) μ' H'),
    ⟨t.items.length, rfl, Nat.zero_le _, μ1, S1, [], [], s1.fresh hD _, s1.freshOk hD _, upd_same, (own_new (ds := []) (vs := []) s1 rfl hD).1, rfl, Nat.le_refl _, h1⟩, ?_⟩
  rintro i m H2 ⟨rfl, hi, μ2, S2, acc, ds, x2, s2, d2, n2, r2, l2, h2⟩
  by_cases hlt : i < t.items.length
  · -- a turn
    rw [List.drop_eq_getElem_cons hlt] at h2
    unfold loopQ at h2
    obtain ⟨hst, h2⟩ := h2.ask
    obtain ⟨hgo, _⟩ := hJ μ2 H2 S2 x2 s2 hst
    obtain ⟨hgo, hy⟩ := hgo i hlt
    refine .inr ⟨hgo, fun H3 => ∃ μ S acc ds, Ext K μ1 H1 μ H3 ∧ StOk K μ H3 S ∧ H3 Dn = some (.lst acc) ∧ Dn ∉ μ ∧ RpA K μ H3 ds acc ∧ ds.length ≤ i + 1 ∧ Po K μ1 H1 (loopQ t.still f (t.items.drop (i + 1)) S) (fun r _ μ' H' => P (ds ++ r) μ' H'),
      fun H3 q => ⟨t.items.length - (i + 1), by omega, rfl, hlt, q⟩, fun v H3 y => ?_⟩
    obtain ⟨rfl, d, ed, rd⟩ := hy v H3 y
    have ed' : t.items[i] = d := by
      rw [List.getElem?_eq_getElem hlt] at ed
      exact Option.some.inj ed
    rw [ed'] at h2
    -- the target
    cases hfd : f d S2 with
    | exc c fs S' => rw [hfd] at h2; exact h2.elim
    | bad => rw [hfd] at h2; exact h2.elim
    | ok o S3 =>
      rw [hfd] at h2
      have hfd' : may (bindN g d (wipeE ρ own) S2) (fun ρ' => body ρ' S2) = .ok o S3 := by rw [← hfd, ← hf]
      obtain ⟨ρ', eb, hbody⟩ := may_ok hfd'
      refine ⟨μ2, wipeE ρ own, S2, d, ρ', (he.mono (e1.trans x2)).wipe own, s2, rd, eb, fun σ' he' hin => ⟨?_, ?_⟩⟩
      · rw [(hin.mono hsub).wipe]
        exact wipe_wipe own σ own fun _ h => h
      · refine hb σ' H3 μ2 ρ' S2 Dn acc _ _ he' s2 ?_
        rw [hbody]
        intro μ4 H4 x4 s4
        have dn4 : H4 Dn = some (.lst acc) := x4.fr _ _ d2 n2
        have nn4 : Dn ∉ μ4 := x4.notin d2 n2
        have x14 : Ext K μ1 H1 μ4 H4 := x2.trans x4
        cases o with
        | none =>
          exact ⟨μ4, S3, acc, ds, x14, s4, dn4, nn4, r2.mono x4, Nat.le_succ_of_le l2, Po.map (g := fun r => r) h2⟩
        | some z =>
          intro w rw_
          refine ⟨acc, dn4, ?_, μ4, S3, acc ++ [w], ds ++ [z], own_ext x14 hD (own_le dn4), own_st s4 dn4 nn4, upd_same, nn4, ?_, ?_, ?_⟩
          · rw [← r2.length]; omega
          · exact RpA.le (own_le dn4) _ _ ((r2.mono x4).append (.cons rw_ .nil))
          · rw [List.length_append]; exact Nat.succ_le_succ l2
          · refine (Po.map (g := fun r => z :: r) h2).imp fun r S' μ' H' _ _ _ k => ?_
            rw [List.append_assoc]
            exact k
  · -- the end
    have e : i = t.items.length := by omega
    subst e
    rw [List.drop_length] at h2
    unfold loopQ at h2
    obtain ⟨hst, h2⟩ := h2.ask
    obtain ⟨_, hstop⟩ := hJ μ2 H2 S2 x2 s2 hst
    refine .inl ⟨hstop, ?_⟩
    have k : P (ds ++ []) μ2 H2 := h2 μ2 H2 x2 s2
    rw [List.append_nil] at k
    exact k Dn acc hD d2 n2 r2 (Nat.le_trans l2 hz)
section
variable {p : Pl} {elt tg iter c : Expr} {ci : CI} {ce : CE} {ct : CT} {g : CN} {scope : Scope} {own : List (Str × Nat)} {pos : Pos}
/-- the scope within -/
def Pl.within (p : Pl) (scope : Scope) : Pl := { p with sc := relS scope p.sc }
/-- a block's target: its names are stored there -/
def storeB (p : Pl) (scope : Scope) (g : CN) : Bool := g.slots.all fun i => match p.N[i]? with
  | some x => (relS scope p.sc).names.lookup x == some .local || scope.names.lookup x == some .cell
  | none => true
def inOwn (own : List (Str × Nat)) (g : CN) : Bool := g.slots.all fun i => (own.map (·.2)).contains i
theorem storeB_ok {X : Cx} {s : Shared} {H : Hp} {cl : List (Str × Addr)} {a : Addr} {fp : List Addr} (h : storeB p scope g = true) : ∀ i ∈ g.slots, ∀ x, (p.within scope).N[i]? = some x → (p.within scope).sc.names.lookup x = some .local ∨ (X.blk s H scope (compEnvC scope cl a X.env) fp).fn x = true := fun i hi x hx => by
  have h1 := List.all_eq_true.mp h i hi
  have hx : p.N[i]? = some x := hx
  rw [hx] at h1
  have h1 : ((relS scope p.sc).names.lookup x == some .local || scope.names.lookup x == some .cell) = true := h1
  rw [Bool.or_eq_true] at h1
  exact h1.imp (fun z => eq_of_beq z) fun z => z
theorem inOwn_ok (h : inOwn own g = true) : ∀ i, i ∈ g.slots → i ∈ own.map (·.2) := fun i hi => by
  have := List.all_eq_true.mp h i hi
  simpa using this
theorem comp_lc (hi : SdI p tg iter ci) (hg : SdN (p.within scope) tg g) (he : SdE (p.within scope) elt ce) (ho : inOwn own g = true) (K : Fg) (C : Orc) {σ : Slots} {H : Hp} {Q : VK} (h : tQ K (evQ C (.comp (own.map (·.2)) g ci ce)) σ H Q) : tLc (tI K (evI C ci)) (tN K g) tYes (tE K (evE C ce)) (own.map (·.2)) σ H Q := by
  refine comp_imp (body := fun ρ' S2 => (evE C ce ρ' S2).bind fun x S3 => .ok (some x) S3) (inOwn_ok ho) (fun σ2 H2 μ ρ S Dn acc R R0 he hs h => ?_) (by
    obtain ⟨μ, ρ, S, he, hs, h⟩ := h
    unfold evQ at h
    exact ⟨μ, ρ, S, he, hs, h⟩)
  show if true = true then tE K (evE C ce) σ2 H2 R else R0 H2
  rw [if_pos rfl]
  exact ⟨μ, ρ, S, he, hs, Po.map (g := some) h⟩
theorem compIf_lc (hi : SdI p tg iter ci) (hg : SdN (p.within scope) tg g) (he : SdE (p.within scope) elt ce) (ho : inOwn own g = true) (K : Fg) (C : Orc) {σ : Slots} {H : Hp} {Q : VK} (h : tQ K (evQ C (.compIf (own.map (·.2)) g ci ct ce)) σ H Q) : tLc (tI K (evI C ci)) (tN K g) (tT K (evT C ct)) (tE K (evE C ce)) (own.map (·.2)) σ H Q := by
  refine comp_imp (body := fun ρ' S2 => (evT C ct ρ' S2).bind fun k S3 => if k = true then (evE C ce ρ' S3).bind fun x S4 => .ok (some x) S4 else .ok none S3) (inOwn_ok ho) (fun σ2 H2 μ ρ S Dn acc R R0 he hs h => ?_) (by
    obtain ⟨μ, ρ, S, he, hs, h⟩ := h
    unfold evQ at h
    exact ⟨μ, ρ, S, he, hs, h⟩)
  refine ⟨μ, ρ, S, he, hs, h.bind.imp fun k S1 μ1 H1 _ e1 s1 h1 => ?_⟩
  cases k with
  | true =>
    rw [if_pos rfl] at h1 ⊢
    exact ⟨μ1, ρ, S1, he.mono e1, s1, Po.map (g := some) h1⟩
  | false =>
    rw [if_neg Bool.false_ne_true] at h1 ⊢
    exact h1.at s1
section
variable (hi : SdI p tg iter ci) (ok : blkC p.N p.sc scope own = true) (hg : SdN (p.within scope) tg g) (hsb : storeB p scope g = true) (ho : inOwn own g = true) (he : SdE (p.within scope) elt ce) (hs : notSet iter = true)
include hi ok hg hsb ho he hs
theorem sq_comp : SdQ p (.ListComp elt [⟨tg, iter, [], 0⟩] scope pos) (.comp (own.map (·.2)) g ci ce) := fun X C gd =>
  (pe_lc (own := own) gd.calm gd.nd (hi X C gd) (blkOk_by (by rw [gd.N, gd.sc]; exact ok)) (fun s H a cl fp => hg _ C (gd.blk s H scope cl a fp) (.inr (storeB_ok hsb))) (fun _ _ _ _ _ => pts_nil) (fun s H a cl fp => he _ C (gd.blk s H scope cl a fp)) (fun x => no_fold hs _ x)).pq fun σ H Q h => comp_lc hi hg he ho _ _ h
theorem sq_compIf (ht : SdT (p.within scope) c ct) : SdQ p (.ListComp elt [⟨tg, iter, [c], 0⟩] scope pos) (.compIf (own.map (·.2)) g ci ct ce) := fun X C gd =>
  (pe_lc (own := own) gd.calm gd.nd (hi X C gd) (blkOk_by (by rw [gd.N, gd.sc]; exact ok)) (fun s H a cl fp => hg _ C (gd.blk s H scope cl a fp) (.inr (storeB_ok hsb))) (fun s H a cl fp => pts_one (ht _ C (gd.blk s H scope cl a fp))) (fun s H a cl fp => he _ C (gd.blk s H scope cl a fp)) (fun x => no_fold hs _ x)).pq fun σ H Q h => compIf_lc hi hg he ho _ _ h
end
end
end PQ

/-! Statements. -/
namespace PQ
open PySem PySem.Spec PyProof.Rows L2
section
variable {K : Fg} {μ μ' μ1 : List Addr} {H H' H1 : Hp} {S : Sto} {σ : Slots} {ρ : En}
/-- what is wanted behind a flow -/
def flP (K : Fg) (D : Ends) (fl : Fl) (μ : List Addr) (H : Hp) : Prop := match fl with
  | .nx ρ => ∀ σ, EnvOk K μ H ρ σ → D.nx σ H
  | .bk ρ => ∀ σ, EnvOk K μ H ρ σ → D.bk σ H
  | .ct ρ => ∀ σ, EnvOk K μ H ρ σ → D.ct σ H
  | .rt d => ∀ v, Rp K μ H d v → D.rt v H
def tS (K : Fg) (f : En → Sto → Res Fl) : TS := fun D σ H => ∃ μ ρ S, EnvOk K μ H ρ σ ∧ StOk K μ H S ∧ Po K μ H (f ρ S) fun fl _ μ' H' => flP K D fl μ' H'
end
def SdS (p : Pl) (s : Stmt) (c : CS) : Prop := ∀ X C, Good X p C → X.fn = (fun _ => true) → PS X s (tS (fgX X) (evS C c))
def SdSs (p : Pl) (s : List Stmt) (c : CSs) : Prop := ∀ X C, Good X p C → X.fn = (fun _ => true) → PSs X s (tS (fgX X) (evSs C c))
section
variable {p : Pl} {a b e o i tg iter : Expr} {ca cb co ci ce : CE} {ct : CT} {ii : CI} {g : CN} {pos : Pos} {s : Stmt} {ss ts : List Stmt} {cs : CS} {css cts : CSs}
theorem ss_nil : SdSs p [] .nil := fun X C gd _ => pss_nil.pq fun D σ H ⟨μ, ρ, S, he, hs, h⟩ => by
  unfold evSs at h
  exact h.at hs σ he
theorem ss_cons (h1 : SdS p s cs) (h2 : SdSs p ss css) : SdSs p (s :: ss) (.cons cs css) := fun X C gd hf => (pss_cons (h1 X C gd hf) (h2 X C gd hf)).pq fun D σ H ⟨μ, ρ, S, he, hs, h⟩ => by
  unfold evSs at h
  refine ⟨μ, ρ, S, he, hs, h.bind.imp fun fl S1 μ1 H1 _ e1 s1 h1 => ?_⟩
  cases fl with
  | nx ρ1 => exact fun σ1 he1 => ⟨μ1, ρ1, S1, he1, s1, h1⟩
  | bk ρ1 => exact h1.at s1
  | ct ρ1 => exact h1.at s1
  | rt d => exact h1.at s1
theorem s_pass : SdS p (.Pass pos) .pass := fun X C gd _ => ps_pass.pq fun D σ H ⟨μ, ρ, S, he, hs, h⟩ => by
  unfold evS at h
  exact h.at hs σ he
theorem s_brk : SdS p (.Break pos) .brk := fun X C gd _ => ps_break.pq fun D σ H ⟨μ, ρ, S, he, hs, h⟩ => by
  unfold evS at h
  exact h.at hs σ he
theorem s_cont : SdS p (.Continue pos) .cont := fun X C gd _ => ps_continue.pq fun D σ H ⟨μ, ρ, S, he, hs, h⟩ => by
  unfold evS at h
  exact h.at hs σ he
theorem s_ret (ha : SdE p a ca) : SdS p (.Return (some a) pos) (.ret ca) := fun X C gd _ => (ps_ret (ha X C gd)).pq fun D σ H ⟨μ, ρ, S, he, hs, h⟩ => by
  unfold evS at h
  exact ⟨μ, ρ, S, he, hs, h.bind.imp fun d S1 μ1 H1 _ e1 s1 h1 v rv => h1.at s1 v rv⟩
theorem s_ex (hn : notComp a = true) (ha : SdE p a ca) : SdS p (.Expr a pos) (.ex ca) := fun X C gd _ => (ps_expr (ha X C gd) (no_swap hn _ _ _)).pq fun D σ H ⟨μ, ρ, S, he, hs, h⟩ => by
  unfold evS at h
  exact ⟨μ, ρ, S, he, hs, h.bind.imp fun d S1 μ1 H1 _ e1 s1 h1 v rv => h1.at s1 σ (he.mono e1)⟩
theorem s_if (ht : SdT p a ct) (h1 : SdSs p ss css) (h2 : SdSs p ts cts) : SdS p (.If a ss ts pos) (.ite ct css cts) := fun X C gd hf => (ps_if (ht X C gd) (h1 X C gd hf) (h2 X C gd hf)).pq fun D σ H ⟨μ, ρ, S, he, hs, h⟩ => by
  unfold evS at h
  refine ⟨μ, ρ, S, he, hs, h.bind.imp fun k S1 μ1 H1 _ e1 s1 h1 => ?_⟩
  cases k with
  | true => rw [if_pos rfl] at h1 ⊢; exact ⟨μ1, ρ, S1, he.mono e1, s1, h1⟩
  | false => rw [if_neg Bool.false_ne_true] at h1 ⊢; exact ⟨μ1, ρ, S1, he.mono e1, s1, h1⟩
/-- x = e -/
theorem asg_imp {K : Fg} {fe : En → Sto → Res D} {D : Ends} {σ : Slots} {H : Hp} (h : tS K (fun ρ S => (fe ρ S).bind fun d S1 => may (bindN g d ρ S1) fun ρ' => .ok (.nx ρ') S1) D σ H) : tAsg (tE K fe) (tN K g) D σ H := by
  obtain ⟨μ, ρ, S, he, hs, h⟩ := h
  refine ⟨μ, ρ, S, he, hs, h.bind.imp fun d S1 μ1 H1 _ e1 s1 h1 v rv => ?_⟩
  obtain ⟨ρ', eb, h1⟩ := h1.may
  exact ⟨μ1, ρ, S1, d, ρ', he.mono e1, s1, rv, eb, fun σ' he' _ => h1.at s1 σ' he'⟩
theorem s_set (hn : notComp a = true) (hg : SdN p tg g) (ha : SdE p a ca) (hw : ∀ env : Env, env.scope = p.sc → swappedStores [tg] a env = pure none) (h1 : ∀ env, (assignEach [tg] env).map (·.2) = [assign tg env]) : SdS p (.Assign [tg] a pos) (.set g ca) := fun X C gd hf =>
  (ps_asg (ha X C gd) (hg X C gd (.inl hf)) (no_swap hn _ _ _) (hw _ gd.sc) (h1 _)).pq fun D σ H h => asg_imp (by
    obtain ⟨μ, ρ, S, he, hs, h⟩ := h
    unfold evS at h
    exact ⟨μ, ρ, S, he, hs, h⟩)
theorem alloc_imp {K : Fg} {fq : En → Sto → Res (List D)} {σ : Slots} {H : Hp} {Q : VK} (h : tE K (fun ρ S => (fq ρ S).bind fun ds S1 => .ok (.ref S1.length) (S1 ++ [.lst ds])) σ H Q) : tQ K fq σ H Q := by
  obtain ⟨μ, ρ, S, he, hs, h⟩ := h
  refine ⟨μ, ρ, S, he, hs, ?_⟩
  have h : Po K μ H ((fq ρ S).bind fun ds S1 => Res.ok (D.ref S1.length) (S1 ++ [Ob.lst ds])) (fun d _ μ' H' => ∀ v, Rp K μ' H' d v → Q v H') := h
  generalize fq ρ S = r at h
  cases r with
  | ok ds S1 =>
    intro μ1 H1 e1 s1 a vs hn ha hm rvs hz
    refine h (μ1 ++ [a]) H1 (e1.take hn) (s1.take hm ha rvs hz) (.ref a) ⟨a, rfl, ?_⟩
    rw [← s1.len, List.getElem?_append_right (Nat.le_refl _), Nat.sub_self]
    rfl
  | exc c fs S' => exact h
  | bad => exact h
/-- x = [..], where the stores are swapped -/
def swapB (sc : Scope) (y : Str) (scope : Scope) (l1 l2 : Nat) : Bool := (match sc.kind with | .function => true | _ => false) && (sc.names.lookup y == some .local) && (l1 == l2) && !(scope.names.any fun (n, k) => n == y && (k == .local || k == .cell))
theorem sw_ok {env : Env} {elt : Expr} {gs : List Comprehension} {scope : Scope} {cpos py : Pos} {y : Str} {l : Nat} (h : swapB env.scope y scope py.line cpos.line = true) : swapsWith (.ListComp elt gs scope cpos) (some (.Name y py)) l env = pure true := by
  unfold swapB at h
  simp only [Bool.and_eq_true] at h
  obtain ⟨⟨⟨h1, h2⟩, h3⟩, h4⟩ := h
  refine sw_true ?_ (eq_of_beq h2) h3 (by simpa using h4)
  revert h1
  cases env.scope.kind <;> intro h1 <;> first | rfl | cases h1
section
variable {elt c : Expr} {y : Str} {py cpos : Pos} {iy : Nat} {scope : Scope} {own : List (Str × Nat)}
variable (hy : p.N[iy]? = some y) (hyl : p.sc.names.lookup y = some .local) (hsw : swapB p.sc y scope py.line cpos.line = true)
variable (hi : SdI p tg iter ii) (ok : blkC p.N p.sc scope own = true) (hg : SdN (p.within scope) tg g) (hsb : storeB p scope g = true) (ho : inOwn own g = true) (he : SdE (p.within scope) elt ce) (hs : notSet iter = true)
include hy hyl hsw hi ok hg hsb ho he hs
theorem s_setLc : SdS p (.Assign [.Name y py] (.ListComp elt [⟨tg, iter, [], 0⟩] scope cpos) pos) (.set (.nm iy) (.alloc (.comp (own.map (·.2)) g ii ce))) := fun X C gd hf =>
  (ps_setLc (own := own) (i := iy) gd.calm gd.nd (by rw [gd.N]; exact hy) (by rw [gd.sc]; exact hyl) (sw_ok (by rw [gd.sc]; exact hsw)) (hi X C gd) (blkOk_by (by rw [gd.N, gd.sc]; exact ok)) (fun s H a cl fp => hg _ C (gd.blk s H scope cl a fp) (.inr (storeB_ok hsb))) (fun _ _ _ _ _ => pts_nil) (fun s H a cl fp => he _ C (gd.blk s H scope cl a fp)) (fun x => no_fold hs _ x)).pq fun D σ H ⟨μ, ρ, S, he', hs', h⟩ => by
    show tLc _ _ _ _ _ σ H fun x H1 => gName iy x σ H1 D.nx
    refine comp_lc hi hg he ho _ C (alloc_imp ⟨μ, ρ, S, he', hs', ?_⟩)
    unfold evS at h
    refine Po.imp (P := fun d S1 μ1 H1 => Po (fgX X) μ1 H1 (may (bindN (.nm iy) d ρ S1) fun ρ' => .ok (.nx ρ') S1) fun fl _ μ' H' => flP (fgX X) D fl μ' H') ?_ fun d S1 μ1 H1 _ e1 s1 h1 v rv => ?_
    · have := h.bind
      unfold evE at this
      exact this
    · exact (h1.at (a := Fl.nx (ρ.set iy (some d))) s1) _ ((he'.mono e1).set rv iy)
theorem s_setLcIf (ht : SdT (p.within scope) c ct) : SdS p (.Assign [.Name y py] (.ListComp elt [⟨tg, iter, [c], 0⟩] scope cpos) pos) (.set (.nm iy) (.alloc (.compIf (own.map (·.2)) g ii ct ce))) := fun X C gd hf =>
  (ps_setLc (own := own) (i := iy) gd.calm gd.nd (by rw [gd.N]; exact hy) (by rw [gd.sc]; exact hyl) (sw_ok (by rw [gd.sc]; exact hsw)) (hi X C gd) (blkOk_by (by rw [gd.N, gd.sc]; exact ok)) (fun s H a cl fp => hg _ C (gd.blk s H scope cl a fp) (.inr (storeB_ok hsb))) (fun s H a cl fp => pts_one (ht _ C (gd.blk s H scope cl a fp))) (fun s H a cl fp => he _ C (gd.blk s H scope cl a fp)) (fun x => no_fold hs _ x)).pq fun D σ H ⟨μ, ρ, S, he', hs', h⟩ => by
    show tLc _ _ _ _ _ σ H fun x H1 => gName iy x σ H1 D.nx
    refine compIf_lc (ct := ct) hi hg he ho _ C (alloc_imp ⟨μ, ρ, S, he', hs', ?_⟩)
    unfold evS at h
    refine Po.imp (P := fun d S1 μ1 H1 => Po (fgX X) μ1 H1 (may (bindN (.nm iy) d ρ S1) fun ρ' => .ok (.nx ρ') S1) fun fl _ μ' H' => flP (fgX X) D fl μ' H') ?_ fun d S1 μ1 H1 _ e1 s1 h1 v rv => ?_
    · have := h.bind
      unfold evE at this
      exact this
    · exact (h1.at (a := Fl.nx (ρ.set iy (some d))) s1) _ ((he'.mono e1).set rv iy)
end
/-- a, b = x, y -/
theorem s_par {x y : Str} {px py pt : Pos} {kt k2 pt2} {j k : Nat} (hi : p.N[j]? = some x) (hj : p.N[k]? = some y) (hij : j ≠ k) (hx : p.sc.names.lookup x = some .local) (hy : p.sc.names.lookup y = some .local) (hs1 : notStar a = true) (hs2 : notStar b = true) (ha : SdE p a ca) (hb : SdE p b cb)
    (hw : ∀ env : Env, env.scope = p.sc → swappedStores [.Tuple [.Name x px, .Name y py] kt pt] (.Tuple [a, b] k2 pt2) env = pure (some [x, y])) :
    SdS p (.Assign [.Tuple [.Name x px, .Name y py] kt pt] (.Tuple [a, b] k2 pt2) pos) (.par j k ca cb) := fun X C gd hf =>
  (ps_par (i := j) (j := k) gd.calm gd.nd (by rw [gd.N]; exact hi) (by rw [gd.N]; exact hj) hij (by rw [gd.sc]; exact hx) (by rw [gd.sc]; exact hy) (pa_cons (ha X C gd) (pa_cons (hb X C gd) pa_nil (star_cons hs2 [] _)) (star_cons hs1 [b] _)) (hw _ gd.sc) rfl).pq fun D σ H ⟨μ, ρ, S, he, hs, h⟩ => by
    unfold evS at h
    refine ⟨μ, ρ, S, he, hs, h.bind.imp fun d S1 μ1 H1 _ e1 s1 h1 v rv => ?_⟩
    refine ⟨μ1, ρ, S1, he.mono e1, s1, h1.bind.imp fun d2 S2 μ2 H2 _ e2 s2 h2 w rw_ => ?_⟩
    exact ⟨v, w, rfl, h2.at s2 _ (((he.mono (e1.trans e2)).set (rv.mono e2) j).set rw_ k)⟩
/-- o[i] = v of a dict -/
def rSetK : V → V → V → Hp → (Hp → Prop) → Prop := fun o i v H Q => ∃ a H', o = .ref a ∧ DPut H a i v H' ∧ Q H'
theorem set_dic {X : Cx} (hu : X.A.units + 1 < cLine) : PSet X rSetK := by
  intro pins s σ H o i v ov iv u Q I ro ri rv h
  obtain ⟨a, H', rfl, g, q⟩ := h
  cases ro
  exact d_setItem hu I g ri rv fun s' I' => ⟨H', I', q⟩
/-- .. of a dict with tuple keys -/
def rSetT (K : Fg) : V → V → V → Hp → (Hp → Prop) → Prop := fun o i v H Q => ∃ (a b : Addr) (xs : List TEn) (k : NestedKey), o = .ref a ∧ i = .ref b ∧ TRd K.k K.P K.w H a xs ∧ KyV K.k H k (.ref b) ∧ k.depth ≤ 8 ∧ xs.length ≤ sizeLine ∧ ∀ u, RelV v u → (a == sysModules) = false → Q (upd H a (TbO K.P K.w a (storedH xs k b u)))
theorem set_tab {X : Cx} (hu : X.A.units + 30 < cLine) : PSet X (rSetT (fgX X)) := by
  intro pins s σ H o i v ov iv u Q I ro ri rv h
  obtain ⟨a, b, xs, k, rfl, rfl, e, hk, hd, hl, q⟩ := h
  cases ro
  cases ri
  exact t_setItem (by omega) I e hk hd hl fun s' I' => ⟨_, I', q u rv (trd_at I e).1⟩
def rSet2 (K : Fg) : V → V → V → Hp → (Hp → Prop) → Prop := fun o i v H Q => rSetT K o i v H Q ∨ (rSetK o i v H Q ∨ rSetL o i v H Q)
theorem set_any {X : Cx} (hu : X.A.units + 30 < cLine) : PSet X (rSet2 (fgX X)) := by
  intro pins s σ H o i v ov iv u Q I ro ri rv h
  rcases h with h | h | h
  · exact set_tab hu pins s σ H o i v ov iv u Q I ro ri rv h
  · exact set_dic (by omega) pins s σ H o i v ov iv u Q I ro ri rv h
  · exact set_list pins s σ H o i v ov iv u Q I ro ri rv h
/-- o[i] = e -/
theorem set_rp {K : Fg} {μ : List Addr} {H : Hp} {S : Sto} {x y d : D} {v u w : V} {Q : Hp → Prop} (hs : StOk K μ H S) (rx : Rp K μ H x v) (ry : Rp K μ H y u) (rd : Rp K μ H d w) (h : Po K μ H (setD x y d S) fun _ _ μ' H' => Ext K μ H μ' H' → Q H') : rSet2 K v u w H Q := by
  unfold setD at h
  cases ek : keyT y with
  | some k =>
    rw [ek] at h
    refine .inl ?_
    obtain ⟨⟨b, rfl⟩, k1, k2⟩ := key_t ek ry
    cases x with
    | ref n =>
      have h : Po K μ H (match S[n]? with
        | some (Ob.dic []) => Res.ok () (S.set n (.dkt [(k, d)]))
        | some (Ob.dkt ks) => if ks.length < sizeLine then .ok () (S.set n (.dkt (pT ks k d))) else .bad
        | _ => .bad) _ := h
      have key : ∀ ks, tabOf S (.val (.ref n)) = some ks → ks.length < sizeLine → Po K μ H (.ok () (S.set n (.dkt (pT ks k d)))) (fun _ _ μ' H' => Ext K μ H μ' H' → Q H') → rSetT K v (.ref b) w H Q := by
        intro ks e1 hl h
        obtain ⟨a, xs, rfl, hi, h1, h2, h3⟩ := rp_tab rx hs e1
        refine ⟨a, b, xs, k, rfl, rfl, h1, k1, k2, by rw [← h2.length]; exact h3, fun u ru hm => ?_⟩
        obtain ⟨x1, x2⟩ := hs.putT hi hm h1 h2 hl k1 k2 rd ru
        exact h _ _ x1 x2 x1
      cases ei : S[n]? with
      | none => rw [ei] at h; exact (show False from h).elim
      | some o =>
        rw [ei] at h
        cases o with
        | lst ds => exact (show False from h).elim
        | frd ds => exact (show False from h).elim
        | dic l =>
          cases l with
          | nil => exact key [] (by simp only [tabOf, ei]) (by rw [sizeLine_eq]; decide) h
          | cons x l => exact (show False from h).elim
        | dkt ks =>
          obtain ⟨hl, h⟩ := Po.ite h
          exact key ks (by simp only [tabOf, ei]) hl h
    | _ => exact (show False from h).elim
  | none =>
  rw [ek] at h
  refine .inr ?_
  have h : Po K μ H (setD0 x y d S) _ := h
  unfold setD0 at h
  split at h
  · obtain ⟨n, ks, a, vs, rfl, rfl, ei, ea, k1, k2, k3, k4, h⟩ := Po.withD hs rx h
    obtain ⟨k, ek, h⟩ := h.may
    obtain ⟨z, h⟩ := h.ite
    refine .inl ⟨a, _, rfl, ?_, h _ _ (hs.putE _ ea (nf_dK k1)) (hs.putO ea (nf_dK k1) (u := .dK (putK vs k w)) ⟨_, upd_same, (k2.put rd k4).mono (hs.putE _ ea (nf_dK k1)), ?_, k4.put k d⟩) (hs.putE _ ea (nf_dK k1))⟩
    · rw [key_rp ry ek]
      exact DPut.k k1 (by rw [← k2.length]; exact z)
    · have := pD_length ks k d
      omega
  · obtain ⟨n, ds, a, vs, rfl, rfl, ei, ea, k1, k2, k3, h⟩ := Po.withL hs rx h
    cases y with
    | int j =>
      obtain ⟨m, em, h⟩ := Po.may (show Po K μ H (may (ixN ds.length j) fun m => Res.ok () (S.set n (Ob.lst (ds.set m d)))) _ from h)
      obtain ⟨x1, x2⟩ := hs.put ea k1 (k2.set rd m) (by rw [List.length_set]; exact k3)
      exact .inr ⟨a, vs, j, m, rfl, ry, k1, by rw [← k2.length]; exact em, h _ _ x1 x2 x1⟩
    | _ => exact (show False from h).elim
theorem s_sub {sp : Pos} (hn : notSlice i = true) (hc : notComp e = true) (ho : SdE p o co) (hi : SdE p i ci) (he' : SdE p e ce) : SdS p (.Assign [.Subscript o i sp] e pos) (.sub co ci ce) := fun X C gd hf =>
  (ps_asg (he' X C gd) (pg_sub (ho X C gd) (hi X C gd) (set_any (by have := gd.un; omega)) (fun v => sub_store hn _ v)) (by rw [show swapsWithSole [.Subscript o i sp] e pos.line X.env = swapsWith e (some (.Subscript o i sp)) pos.line X.env from by unfold swapsWithSole; rfl]; exact no_swap hc _ _ _) (by cases e <;> rfl) rfl).pq fun D σ H ⟨μ, ρ, S, he, hs, h⟩ => by
    unfold evS at h
    refine ⟨μ, ρ, S, he, hs, h.bind.imp fun d S1 μ1 H1 _ e1 s1 h1 w rd => ?_⟩
    refine ⟨μ1, ρ, S1, he.mono e1, s1, h1.bind.imp fun x S2 μ2 H2 _ e2 s2 h2 v rx => ?_⟩
    refine ⟨μ2, ρ, S2, he.mono (e1.trans e2), s2, h2.bind.imp fun y S3 μ3 H3 _ e3 s3 h3 u ry => ?_⟩
    exact set_rp s3 (rx.mono e3) ry ((rd.mono e2).mono e3) (h3.bind.imp fun _ S4 μ4 H4 _ e4 s4 h4 _ => h4.at s4 σ ((he.mono (e1.trans (e2.trans e3))).mono e4))
/-- an operation in place, by values -/
def ipR : Bop → TIp
  | .add => fun x y H Q => rI0 (fun i j => .int (i + j)) x y H Q ∨ ∃ i j, x = .str i ∧ y = .str j ∧ i.length + j.length ≤ sizeLine ∧ Q (.str (i ++ j)) H
  | .sub => rI0 fun i j => .int (i - j)
  | _ => fun _ _ _ _ => False
def bopOp : Bop → Operator
  | .add => .Add | .sub => .Sub | .mul => .Mult | .fdiv => .FloorDiv | .mod => .Mod | .pow => .Pow | .shl => .LShift | .shr => .RShift | .band => .BitAnd | .bor => .BitOr | .bxor => .BitXor
theorem ip_ok (f : Bop) (X : Cx) : PIp X (bopOp f) (ipR f) := by
  cases f with
  | add => exact iop_add.or iop_add_str
  | sub => exact iop_sub
  | _ => exact fun _ _ _ _ _ _ _ _ _ _ _ _ h => h.elim
theorem aug_rp {f : Bop} {K : Fg} {μ : List Addr} {H : Hp} {S : Sto} {x y : D} {v u : V} {Q : VK} (hs : StOk K μ H S) (rx : Rp K μ H x v) (ry : Rp K μ H y u) (h : Po K μ H (augD f x y S) fun d _ μ' H' => ∀ v, Rp K μ' H' d v → Q v H') : ipR f v u H Q := by
  cases f with
  | add =>
    cases x with
    | int i => cases y with
      | int j => exact .inl ⟨i, j, rx, ry, Po.at (show Po K μ H (Res.ok (D.int (i + j)) S) _ from h) hs _ rfl⟩
      | _ => exact (show False from h).elim
    | str i => cases y with
      | str j =>
        obtain ⟨z, h⟩ := Po.ite (show Po K μ H (if i.length + j.length ≤ sizeLine then Res.ok (D.str (i ++ j)) S else Res.bad) _ from h)
        exact .inr ⟨i, j, rx, ry, z, Po.at h hs _ rfl⟩
      | _ => exact (show False from h).elim
    | _ => exact (show False from h).elim
  | sub =>
    cases x with
    | int i => cases y with
      | int j => exact ⟨i, j, rx, ry, Po.at (show Po K μ H (Res.ok (D.int (i - j)) S) _ from h) hs _ rfl⟩
      | _ => exact (show False from h).elim
    | _ => exact (show False from h).elim
  | _ => exact (show False from by cases x <;> cases y <;> exact h).elim
theorem s_aug {x : Str} {j : Nat} {f : Bop} {px : Pos} (hx : NameAt p x j) (ha : SdE p a ca) : SdS p (.AugAssign (.Name x px) (bopOp f) a pos) (.aug j f ca) := fun X C gd hf =>
  (ps_aug (i := j) gd.nd (by rw [gd.N]; exact hx.1) (by rw [gd.sc]; exact hx.2) (ha X C gd) (ip_ok f X) (.inl (by rw [hf]))).pq fun D σ H ⟨μ, ρ, S, he, hs, h⟩ => by
    unfold evS at h
    obtain ⟨d, ed, h⟩ := h.may
    have e2 : ρ[j]? = some (some d) := by
      cases q : ρ[j]? with
      | none => rw [q] at ed; cases ed
      | some o => rw [q] at ed; exact congrArg some ed
    obtain ⟨v, q1, q2⟩ := he.2 j d e2
    refine ⟨v, q1, μ, ρ, S, he, hs, h.bind.imp fun y S1 μ1 H1 _ e1 s1 h1 u ru => ?_⟩
    exact aug_rp s1 (q2.mono e1) ru (h1.bind.imp fun z S2 μ2 H2 _ e2 s2 h2 w rw_ => h2.at s2 _ (((he.mono e1).mono e2).set rw_ j))
/-- o[i] of a list, by values -/
theorem get_list {X : Cx} : PGet X (rIxL (fgX X)) := by
  intro pins s σ H x y v u Q I rx ry h
  obtain ⟨p, xs, i, z, rfl, rfl, hq, he, q⟩ := h
  cases rx
  obtain ⟨t, rfl⟩ := ry
  obtain ⟨its, r, pl, hz⟩ := I.list hq
  obtain ⟨j, h1, h2, h3, h4, h5⟩ := atI_get he
  obtain ⟨w, ew, rw'⟩ := r.get h2
  have hl := r.length
  have hn := line63
  have fin : EP X pins σ Q w s := ⟨z, H, I, rw', q⟩
  by_cases h0 : 0 ≤ i
  · have hj : i.toNat = j := by
      rw [seqIndex_of h0 h5] at h1
      exact Option.some.inj h1
    exact wpAny_getItem_list pl.isList h0 (by omega) (by rw [hj]; simpa using ew) fin
  · have hj : (i + (its.toArray.size : Int)).toNat = j := by
      rw [seqIndex_neg (by omega) h4] at h1
      rw [List.size_toArray, ← hl]
      exact Option.some.inj h1
    exact wpAny_getItem_list_neg pl.isList (by omega) (by rw [List.size_toArray] <;> omega) (by omega) (by rw [hj]; simpa using ew) fin
/-- o[i] of a list or a dict, by values -/
def rGet2 (K : Fg) : V → V → Hp → VK → Prop := fun x y H Q => rIxD x y H Q ∨ rIxL K x y H Q ∨ rIxTb K x y H Q
theorem get_any {X : Cx} (hu : X.A.units + 30 < cLine) : PGet X (rGet2 (fgX X)) := by
  intro pins s σ H x y v u Q I rx ry h
  rcases h with h | h | h
  · obtain ⟨a, w, rfl, g, q⟩ := h
    cases rx
    exact d_getItem (by omega) I g ry fun w' s' I' rw' => ⟨w, H, I', rw', q⟩
  · exact get_list pins s σ H x y v u Q I rx ry h
  · obtain ⟨a, b, xs, k, p, w, rfl, rfl, e, ky, hk, hd, hp, rv, q⟩ := h
    cases rx
    cases ry
    exact t_getItem (by omega) I e ky hk hd hp fun s' I' => ⟨w, H, I', rv, q⟩
theorem get_rp {K : Fg} {μ : List Addr} {H : Hp} {S : Sto} {x y : D} {v u : V} {Q : VK} (hs : StOk K μ H S) (rx : Rp K μ H x v) (ry : Rp K μ H y u) (h : Po K μ H (getD x y S) fun d _ μ' H' => ∀ v, Rp K μ' H' d v → Q v H') : rGet2 K v u H Q := by
  cases x with
  | ref n =>
    cases y with
    | int i =>
      have h : Po K μ H (match S[n]? with
        | some (Ob.lst ds) => may (atI ds i) fun d => Res.ok d S
        | some (Ob.dic ks) => may (gD ks (.inl i)) fun d => Res.ok d S
        | some (Ob.frd ks) => may (gD ks (.inl i)) fun d => Res.ok d S
        | _ => Res.bad) _ := h
      cases ei : S[n]? with
      | none => rw [ei] at h; exact (show False from h).elim
      | some o =>
        rw [ei] at h
        cases o with
        | dkt ks => exact (show False from h).elim
        | lst ds =>
          obtain ⟨d, e, h⟩ := Po.may h
          obtain ⟨a, vs, rfl, _, h1, h2, _⟩ := rp_ref rx hs ei
          obtain ⟨w, e1, r1⟩ := rp_at h2 e
          exact .inr (.inl ⟨a, vs, i, w, rfl, ry, .of h1, e1, h.at hs w r1⟩)
        | dic ks =>
          obtain ⟨d, e, h⟩ := Po.may h
          obtain ⟨a, vs, rfl, _, h1, h2, _⟩ := rp_refD rx hs ei
          obtain ⟨w, e1, r1⟩ := h2.getS e
          refine .inl ⟨a, w, rfl, ?_, h.at hs w r1⟩
          rw [show u = kV (.inl i) from ry, ← e1]
          exact DGet.k h1
        | frd ks =>
          obtain ⟨d, e, h⟩ := Po.may h
          obtain ⟨a, vs, rfl, _, h1, h2, _⟩ := rp_refF rx hs ei
          obtain ⟨w, e1, r1⟩ := h2.getS e
          refine .inl ⟨a, w, rfl, ?_, h.at hs w r1⟩
          rw [show u = kV (.inl i) from ry, ← e1]
          exact dget_rd (.inr h1)
    | str z =>
      have h : Po K μ H (match S[n]? with
        | some (Ob.dic ks) => may (gD ks (.inr z)) fun d => Res.ok d S
        | some (Ob.frd ks) => may (gD ks (.inr z)) fun d => Res.ok d S
        | _ => Res.bad) _ := h
      cases ei : S[n]? with
      | none => rw [ei] at h; exact (show False from h).elim
      | some o =>
        rw [ei] at h
        cases o with
        | lst ds => exact (show False from h).elim
        | dkt ks => exact (show False from h).elim
        | dic ks =>
          obtain ⟨d, e, h⟩ := Po.may h
          obtain ⟨a, vs, rfl, _, h1, h2, _⟩ := rp_refD rx hs ei
          obtain ⟨w, e1, r1⟩ := h2.getS e
          refine .inl ⟨a, w, rfl, ?_, h.at hs w r1⟩
          rw [show u = kV (.inr z) from ry, ← e1]
          exact DGet.k h1
        | frd ks =>
          obtain ⟨d, e, h⟩ := Po.may h
          obtain ⟨a, vs, rfl, _, h1, h2, _⟩ := rp_refF rx hs ei
          obtain ⟨w, e1, r1⟩ := h2.getS e
          refine .inl ⟨a, w, rfl, ?_, h.at hs w r1⟩
          rw [show u = kV (.inr z) from ry, ← e1]
          exact dget_rd (.inr h1)
    | tup ds =>
      obtain ⟨k, ek, h⟩ := Po.may (show Po K μ H (may (keyT (.tup ds)) fun k => idxT n k S) _ from h)
      have h : Po K μ H (match S[n]? with
        | some (Ob.dkt ks) => may (gT ks k) fun d => Res.ok d S
        | _ => Res.bad) _ := h
      cases ei : S[n]? with
      | none => rw [ei] at h; exact (show False from h).elim
      | some o =>
        rw [ei] at h
        cases o with
        | dkt ks =>
          obtain ⟨d, e, h⟩ := Po.may h
          obtain ⟨a, xs, rfl, _, h1, h2, h3, h4, _⟩ := rp_refT rx hs ei
          obtain ⟨⟨b, rfl⟩, k1, k2⟩ := key_t ek ry
          rcases h4.get (k := k) with ⟨z, _⟩ | ⟨d', p, w, g1, g2, g3, g4⟩
          · rw [e] at z; cases z
          · rw [e] at g1
            cases g1
            exact .inr (.inr ⟨a, b, xs, k, p, w, rfl, rfl, h1, h3, k1, k2, g2, g3, h.at hs w g4⟩)
        | _ => exact (show False from h).elim
    | _ => exact (show False from h).elim
  | _ => exact (show False from h).elim
theorem s_augS {f : Bop} {sp : Pos} (hn : notSlice i = true) (ho : SdE p o co) (hi : SdE p i ci) (he' : SdE p e ce) : SdS p (.AugAssign (.Subscript o i sp) (bopOp f) e pos) (.augS co ci f ce) := fun X C gd hf =>
  (ps_augS (ho X C gd) (hi X C gd) (get_any (by have := gd.un; omega)) (he' X C gd) (ip_ok f X) (set_any (by have := gd.un; omega)) (fun ov iv new => aug_store hn ov iv new)).pq fun D σ H ⟨μ, ρ, S, he, hs, h⟩ => by
    unfold evS at h
    refine ⟨μ, ρ, S, he, hs, h.bind.imp fun x S1 μ1 H1 _ e1 s1 h1 v rx => ?_⟩
    refine ⟨μ1, ρ, S1, he.mono e1, s1, h1.bind.imp fun y S2 μ2 H2 _ e2 s2 h2 u ry => ?_⟩
    refine get_rp s2 (rx.mono e2) ry (h2.bind.imp fun x0 S3 μ3 H3 _ e3 s3 h3 w rw_ => ?_)
    refine ⟨μ3, ρ, S3, he.mono (e1.trans (e2.trans e3)), s3, h3.bind.imp fun z S4 μ4 H4 _ e4 s4 h4 t rt => ?_⟩
    refine aug_rp s4 (rw_.mono e4) rt (h4.bind.imp fun z2 S5 μ5 H5 _ e5 s5 h5 t2 rt2 => ?_)
    refine set_rp s5 ((((rx.mono e2).mono e3).mono e4).mono e5) (((ry.mono e3).mono e4).mono e5) rt2 (h5.bind.imp fun _ S6 μ6 H6 _ e6 s6 h6 _ => ?_)
    exact h6.at s6 σ ((he.mono (e1.trans (e2.trans (e3.trans (e4.trans e5))))).mono e6)
/-- what is never reached -/
theorem s_raise {e1 e2 : Option Expr} : SdS p (.Raise e1 e2 pos) .raise := fun X C gd hf => by
  refine ⟨fun pins s σ H D I h => ?_⟩
  obtain ⟨μ, ρ, S, he, hs, h⟩ := h
  unfold evS at h
  exact (show False from h).elim
/-- the turns of a for -/
theorem for_core {X : Cx} {C : Orc} {Dn : Ends} {still : Sto → Prop} {items : List D} {J : It} {μ1 : List Addr} {H1 : Hp} {ρ : En} {S1 : Sto} {σ : Slots} (hJ : ∀ μ H S, Ext (fgX X) μ1 H1 μ H → StOk (fgX X) μ H S → still S → (∀ i, i < items.length → J.go i H ∧ ∀ x H', J.yld i H x H' → H' = H ∧ ∃ d, items[i]? = some d ∧ Rp (fgX X) μ H d x) ∧ J.stop items.length H)
    (he : EnvOk (fgX X) μ1 H1 ρ σ) (s1 : StOk (fgX X) μ1 H1 S1) (h1 : Po (fgX X) μ1 H1 (loopS still (fun d ρ1 S2 => may (bindN g d ρ1 S2) fun ρ2 => evSs C css ρ2 S2) items ρ S1) fun fl _ μ' H' => flP (fgX X) Dn fl μ' H') :
    ∃ W : Nat → Nat → L2.St → Hp → Prop, (∃ m, W 0 m σ H1) ∧ ∀ (i m : Nat) (σ : L2.St) (H : Hp), W i m σ H → J.stop i H ∧ Dn.nx σ H ∨ J.go i H ∧ ∃ N : L2.St → Hp → Prop, (∀ (σ' : L2.St) (H' : Hp), N σ' H' → ∃ m', m' < m ∧ W (i + 1) m' σ' H') ∧ ∀ (x : V) (H' : Hp), J.yld i H x H' → tN (fgX X) g x σ H' fun σ2 H2 => tS (fgX X) (evSs C css) { nx := N, rt := Dn.rt, bk := Dn.nx, ct := N } σ2 H2 := by
  generalize hbf : (fun d ρ1 S2 => may (bindN g d ρ1 S2) fun ρ2 => evSs C css ρ2 S2) = f at h1
  refine ⟨fun i m σ H => m = items.length - i ∧ i ≤ items.length ∧ ∃ μ ρ S, Ext (fgX X) μ1 H1 μ H ∧ EnvOk (fgX X) μ H ρ σ ∧ StOk (fgX X) μ H S ∧ Po (fgX X) μ H (loopS still f (items.drop i) ρ S) fun fl _ μ' H' => flP (fgX X) Dn fl μ' H',
    ⟨items.length, rfl, Nat.zero_le _, μ1, ρ, S1, .refl, he, s1, h1⟩, ?_⟩
  rintro i m σ2 H2 ⟨rfl, hi, μ2, ρ2, S2, x2, he2, s2, h2⟩
  by_cases hlt : i < items.length
  · rw [List.drop_eq_getElem_cons hlt] at h2
    unfold loopS at h2
    obtain ⟨hst, h2⟩ := h2.ask
    obtain ⟨hgo, _⟩ := hJ μ2 H2 S2 x2 s2 hst
    obtain ⟨hgo, hy⟩ := hgo i hlt
    refine .inr ⟨hgo, fun σ3 H3 => ∃ μ ρ S, Ext (fgX X) μ1 H1 μ H3 ∧ EnvOk (fgX X) μ H3 ρ σ3 ∧ StOk (fgX X) μ H3 S ∧ Po (fgX X) μ H3 (loopS still f (items.drop (i + 1)) ρ S) fun fl _ μ' H' => flP (fgX X) Dn fl μ' H',
      fun σ3 H3 q => ⟨items.length - (i + 1), by omega, rfl, hlt, q⟩, fun v H3 y => ?_⟩
    obtain ⟨rfl, d, ed, rd⟩ := hy v H3 y
    have ed' : items[i] = d := by
      rw [List.getElem?_eq_getElem hlt] at ed
      exact Option.some.inj ed
    rw [ed', ← hbf] at h2
    obtain ⟨ρ3, eb, h3⟩ := Po.may (Po.bind h2)
    refine ⟨μ2, ρ2, S2, d, ρ3, he2, s2, rd, eb, fun σ' he' _ => ⟨μ2, ρ3, S2, he', s2, h3.imp fun fl S4 μ4 H4 _ e4 s4 h4 => ?_⟩⟩
    rw [hbf] at h4
    cases fl with
    | nx ρ4 => exact fun σ4 he4 => ⟨μ4, ρ4, S4, x2.trans e4, he4, s4, h4⟩
    | ct ρ4 => exact fun σ4 he4 => ⟨μ4, ρ4, S4, x2.trans e4, he4, s4, h4⟩
    | bk ρ4 => exact h4.at s4
    | rt d => exact h4.at s4
  · have e : i = items.length := by omega
    subst e
    rw [List.drop_length] at h2
    unfold loopS at h2
    obtain ⟨hst, h2⟩ := h2.ask
    exact .inl ⟨(hJ μ2 H2 S2 x2 s2 hst).2, h2.at s2 σ2 he2⟩
theorem dcAt_some {it : CI} {ρ : En} {S : Sto} {a : Nat} {ks : List (Key × D)} (h : dcAt it ρ S = some (a, ks)) : ∃ i, it = .r (.e (.var i)) ∧ ρ[i]? = some (some (.ref a)) ∧ S[a]? = some (.dic ks) := by
  unfold dcAt at h
  split at h
  · rename_i i
    split at h
    · rename_i a' e1
      split at h
      · rename_i ks' e2
        cases h
        exact ⟨i, rfl, e1, e2⟩
      · cases h
    · cases h
  · cases h
/-- for -/
theorem s_for (hsn : notSet iter = true) (hi : SdI p tg iter ii) (hv : ∀ i, ii = .r (.e (.var i)) → SdE p iter (.var i)) (hg : SdN p tg g) (hb : SdSs p ss css) : SdS p (.For tg iter ss [] pos) (.for g ii css) := fun X C gd hf => by
  refine ⟨fun pins s σ H D I hh => ?_⟩
  obtain ⟨μ, ρ, S, he, hs, h⟩ := hh
  unfold evS at h
  cases hd : dcAt ii ρ S with
  | none =>
    rw [hd] at h
    refine (ps_for gd.own gd.calm (hi X C gd) (hg X C gd (.inl hf)) (hb X C gd hf) (fun x => no_fold hsn _ x)).run pins s σ H D I ?_
    exact ⟨μ, ρ, S, he, hs, (Po.bind h).imp fun t S1 μ1 H1 _ e1 s1 h1 J hJ => for_core (J := J) hJ (he.mono e1) s1 h1⟩
  | some q =>
    obtain ⟨a, ks⟩ := q
    rw [hd] at h
    obtain ⟨i, rfl, ei, es⟩ := dcAt_some hd
    obtain ⟨v, ev, rv⟩ := he.2 i _ ei
    obtain ⟨p, rfl, ea⟩ := rv
    obtain ⟨vs, hp, r1, r2, r3⟩ := hs.dic es ea
    refine (ps_lock (ps_for gd.own gd.calm (pi_keys (hv i rfl X C gd)) (hg X C gd (.inl hf)) (hb X C gd hf) (fun x => no_fold hsn _ x))).run pins s σ H D I ⟨p, .dK vs, hp, trivial, fun od => ?_⟩
    have ex := hs.putE (.frz od (.dK vs)) ea (nf_dK hp)
    have s1 := hs.putO (ob := .frd ks) ea (nf_dK hp) ⟨vs, ⟨od, upd_same⟩, r1.mono ex, r2, r3⟩
    generalize hH1 : upd H p (.frz od (.dK vs)) = H1 at ex s1
    have hp1 : H1 p = some (.frz od (.dK vs)) := by rw [← hH1]; exact upd_same
    -- the loop, locked
    generalize hDl : ({ nx := _, rt := _, bk := _, ct := _ } : Ends) = Dl
    have hl : Po (fgX X) μ H1 (loopS (fun S2 => S2[a]? = some (.frd ks)) (fun d ρ1 S2 => may (bindN g d ρ1 S2) fun ρ2 => evSs C css ρ2 S2) (ks.map fun p => keyD p.1) ρ (S.set a (.frd ks))) fun fl _ μ' H' => flP (fgX X) Dl fl μ' H' := by
      have h : Po (fgX X) μ H ((loopS (fun S2 => S2[a]? = some (.frd ks)) (fun d ρ1 S2 => may (bindN g d ρ1 S2) fun ρ2 => evSs C css ρ2 S2) (ks.map fun p => keyD p.1) ρ (S.set a (.frd ks))).bind fun fl S3 => ask (S3[a]? = some (.frd ks)) (.ok fl (S3.set a (.dic ks)))) fun fl _ μ' H' => flP (fgX X) D fl μ' H' := h
      cases hr : loopS (fun S2 => S2[a]? = some (.frd ks)) (fun d ρ1 S2 => may (bindN g d ρ1 S2) fun ρ2 => evSs C css ρ2 S2) (ks.map fun p => keyD p.1) ρ (S.set a (.frd ks)) with
      | exc c fs S' => rw [hr] at h; exact h
      | bad => rw [hr] at h; exact h
      | ok fl S3 =>
        rw [hr] at h
        obtain ⟨e3, h⟩ := Po.ask (show Po (fgX X) μ H (ask (S3[a]? = some (.frd ks)) (.ok fl (S3.set a (.dic ks)))) _ from h)
        intro μ' H' e s3
        rw [← hH1] at e
        obtain ⟨hl, ee⟩ := Ext.unlock hs ea hp e
        have ea' : μ'[a]? = some p := e.get ea
        obtain ⟨vs', ⟨o', hv'⟩, t1, t2, t3⟩ := s3.frd e3 ea'
        rw [hl] at hv'
        cases hv'
        have le := frd_le (K := (fgX X)) (μ := μ') (u := .dK vs) hl
        have st := s3.putL (u := .dK vs) (ob := .dic ks) ea' le ⟨vs, upd_same, RpK.le le ks vs t1, t2, t3⟩
        have fin := h μ' _ ee st
        have env : ∀ {ρ' : En} {σ' : Slots}, EnvOk (fgX X) μ' H' ρ' σ' → EnvOk (fgX X) μ' (upd H' p (.dK vs)) ρ' σ' := fun he' => ⟨he'.1, fun i d q => let ⟨v, e1, e2⟩ := he'.2 i d q; ⟨v, e1, Rp.le le d v e2⟩⟩
        rw [← hDl]
        cases fl with
        | nx ρ' => exact fun σ' he' => ⟨hl, fin σ' (env he')⟩
        | bk ρ' => exact fun σ' he' => ⟨hl, fin σ' (env he')⟩
        | ct ρ' => exact fun σ' he' => ⟨hl, fin σ' (env he')⟩
        | rt d => exact fun v rv => ⟨hl, fin v (Rp.le le d v rv)⟩
    refine ⟨μ, ρ, S.set a (.frd ks), he.mono ex, s1, ?_⟩
    have e0 : evE C (.var i) ρ (S.set a (.frd ks)) = .ok (.ref a) (S.set a (.frd ks)) := by
      unfold evE
      rw [ei]
      rfl
    rw [e0]
    intro μ1 H2 x1 s2 v rv
    obtain ⟨p', rfl, ea'⟩ := rv
    have : p' = p := by
      rw [x1.get ea] at ea'
      exact (Option.some.inj ea').symm
    subst this
    refine ⟨p', od, rfl, .inl ⟨vs, x1.frd _ _ _ hp1, ?_⟩⟩
    refine for_core (J := Itk p' od vs) (still := fun S2 => S2[a]? = some (.frd ks)) (items := ks.map fun p => keyD p.1) ?_ ((he.mono ex).mono x1) s2 (hl.later x1)
    intro μ3 H3 S3 x3 s3 st
    have hp3 : H3 p' = some (.frz od (.dK vs)) := x3.frd _ _ _ (x1.frd _ _ _ hp1)
    have hlen : (ks.map fun p => keyD p.1).length = vs.length := by rw [List.length_map]; exact r1.length
    refine ⟨fun i hi => ⟨⟨hp3, by omega⟩, fun x H' y => ?_⟩, hp3, by omega⟩
    obtain ⟨rfl, k, w, ek, rfl⟩ := y
    refine ⟨rfl, keyD k, ?_, ?_⟩
    · have := congrArg (fun l => l[i]?) r1.keysD
      simp only [List.getElem?_map, ek, Option.map_some] at this
      rw [List.getElem?_map]
      cases eks : ks[i]? with
      | none => rw [eks] at this; cases this
      | some q =>
        rw [eks] at this
        have : k = q.1 := by simpa using this
        rw [this]
        rfl
    · cases k <;> rfl
/-- while -/
theorem s_while (ht : SdT p a ct) (hb : SdSs p ss css) : SdS p (.While a ss [] pos) (.while ct css) := fun X C gd hf =>
  (ps_while gd.own (ht X C gd) (hb X C gd hf)).pq fun D σ H ⟨μ, ρ, S, he, hs, h⟩ => by
    unfold evS at h
    refine ⟨fun m σ H => ∃ μ ρ S, EnvOk (fgX X) μ H ρ σ ∧ StOk (fgX X) μ H S ∧ Po (fgX X) μ H (whileS (evT C ct) (evSs C css) m ρ S) fun fl _ μ' H' => flP (fgX X) D fl μ' H', ⟨turns, μ, ρ, S, he, hs, h⟩, ?_⟩
    rintro m σ2 H2 ⟨μ2, ρ2, S2, he2, s2, h2⟩
    cases m with
    | zero => exact h2.elim
    | succ m =>
      unfold whileS at h2
      refine ⟨μ2, ρ2, S2, he2, s2, h2.bind.imp fun k S3 μ3 H3 _ e3 s3 h3 => ?_⟩
      cases k with
      | true =>
        rw [if_pos rfl] at h3 ⊢
        refine ⟨fun σ4 H4 => ∃ μ ρ S, EnvOk (fgX X) μ H4 ρ σ4 ∧ StOk (fgX X) μ H4 S ∧ Po (fgX X) μ H4 (whileS (evT C ct) (evSs C css) m ρ S) fun fl _ μ' H' => flP (fgX X) D fl μ' H', fun σ4 H4 q => ⟨m, Nat.lt_succ_self m, q⟩, ?_⟩
        refine ⟨μ3, ρ2, S3, he2.mono e3, s3, h3.bind.imp fun fl S4 μ4 H4 _ e4 s4 h4 => ?_⟩
        cases fl with
        | nx ρ4 => exact fun σ4 he4 => ⟨μ4, ρ4, S4, he4, s4, h4⟩
        | ct ρ4 => exact fun σ4 he4 => ⟨μ4, ρ4, S4, he4, s4, h4⟩
        | bk ρ4 => exact h4.at s4
        | rt d => exact h4.at s4
      | false =>
        rw [if_neg Bool.false_ne_true] at h3 ⊢
        exact h3.at s3 σ2 (he2.mono e3)
end
end PQ

/-! From the text to the language, with the proof. -/
namespace PQ
open PySem PySem.Spec PyProof.Rows L2
section
variable {p : Pl} {a b e o i tg iter : Expr} {ca cb co ci ce : CE} {ct : CT} {ii : CI} {g : CN} {pos : Pos}
theorem no_swap2 (t : Expr) (ht : ∀ x q, t ≠ .Name x q) (l : Nat) (env : Env) : swapsWith e (some t) l env = pure false := by
  cases e <;> first | rfl | (cases t <;> first | rfl | exact absurd rfl (ht _ _))
theorem s_sub2 {sp : Pos} (hn : notSlice i = true) (ho : SdE p o co) (hi : SdE p i ci) (he' : SdE p e ce) : SdS p (.Assign [.Subscript o i sp] e pos) (.sub co ci ce) := fun X C gd hf =>
  (ps_asg (he' X C gd) (pg_sub (ho X C gd) (hi X C gd) (set_any (by have := gd.un; omega)) (fun v => sub_store hn _ v)) (by rw [show swapsWithSole [.Subscript o i sp] e pos.line X.env = swapsWith e (some (.Subscript o i sp)) pos.line X.env from by unfold swapsWithSole; rfl]; exact no_swap2 _ (fun x q z => by cases z) _ _) (by cases e <;> rfl) rfl).pq fun D σ H ⟨μ, ρ, S, he, hs, h⟩ => by
    unfold evS at h
    refine ⟨μ, ρ, S, he, hs, h.bind.imp fun d S1 μ1 H1 _ e1 s1 h1 w rd => ?_⟩
    refine ⟨μ1, ρ, S1, he.mono e1, s1, h1.bind.imp fun x S2 μ2 H2 _ e2 s2 h2 v rx => ?_⟩
    refine ⟨μ2, ρ, S2, he.mono (e1.trans e2), s2, h2.bind.imp fun y S3 μ3 H3 _ e3 s3 h3 u ry => ?_⟩
    exact set_rp s3 (rx.mono e3) ry ((rd.mono e2).mono e3) (h3.bind.imp fun _ S4 μ4 H4 _ e4 s4 h4 _ => h4.at s4 σ ((he.mono (e1.trans (e2.trans e3))).mono e4))
/-- (a, b) = .. -/
theorem s_setT {es : List Expr} {is : List Nat} {k : Nat} {q : Pos} (hg : NamesAt p es is) (ha : SdE p a ca) (hw : ∀ env : Env, env.scope = p.sc → swappedStores [.Tuple es k q] a env = pure none) : SdS p (.Assign [.Tuple es k q] a pos) (.set (.tup is) ca) := fun X C gd hf =>
  (ps_asg (ha X C gd) (sn_tup hg X C gd (.inl hf)) (by rw [show swapsWithSole [.Tuple es k q] a pos.line X.env = swapsWith a (some (.Tuple es k q)) pos.line X.env from by unfold swapsWithSole; rfl]; exact no_swap2 _ (fun x q z => by cases z) _ _) (hw _ gd.sc) rfl).pq fun D σ H h => asg_imp (by
    obtain ⟨μ, ρ, S, he, hs, h⟩ := h
    unfold evS at h
    exact ⟨μ, ρ, S, he, hs, h⟩)
/-- x = e, the stores in order -/
theorem s_setN {x : Str} {q : Pos} {j : Nat} (hx : NameAt p x j) (ha : SdE p a ca) (hsw : ∀ env : Env, env.scope = p.sc → swapsWith a (some (.Name x q)) pos.line env = pure false) : SdS p (.Assign [.Name x q] a pos) (.set (.nm j) ca) := fun X C gd hf =>
  (ps_asg (ha X C gd) (sn_nm hx X C gd (.inl hf)) (by rw [show swapsWithSole [.Name x q] a pos.line X.env = swapsWith a (some (.Name x q)) pos.line X.env from by unfold swapsWithSole; rfl]; exact hsw _ gd.sc) (by cases a <;> rfl) rfl).pq fun D σ H h => asg_imp (by
    obtain ⟨μ, ρ, S, he, hs, h⟩ := h
    unfold evS at h
    exact ⟨μ, ρ, S, he, hs, h⟩)
end
def bkS (sc : Scope) : ScopeKind := if sc.kind.isAnnotationScope then .function else sc.kind
def swB (sc : Scope) (value : Expr) (t : Str) (tl : Nat) : Bool := match value with
  | .ListComp _ _ s q => bkS sc == .function && sc.names.lookup t == some .local && tl == q.line && !(s.names.any fun (n, k) => n == t && (k == .local || k == .cell))
  | .SetComp _ _ s q => bkS sc == .function && sc.names.lookup t == some .local && tl == q.line && !(s.names.any fun (n, k) => n == t && (k == .local || k == .cell))
  | .DictComp _ _ _ s q => bkS sc == .function && sc.names.lookup t == some .local && tl == q.line && !(s.names.any fun (n, k) => n == t && (k == .local || k == .cell))
  | _ => false
theorem swB_ok {sc : Scope} {e : Expr} {t : Str} {q : Pos} {l : Nat} (h : swB sc e t q.line = false) (env : Env) (he : env.scope = sc) : swapsWith e (some (.Name t q)) l env = pure false := by
  subst he
  cases e <;> first
    | rfl
    | (show pure (env.blockKind == .function && env.kindOf t == some .local && q.line == _ && _) = _
       exact congrArg pure h)
def swpS (sc : Scope) (ts vs : List Expr) : Option (Option (List Str)) :=
  if (!(ts.length == 2 || ts.length == 3) || vs.length != ts.length || bkS sc != .function) = true then some none
  else if (vs.any fun | .Starred .. => true | _ => false) = true then some none
  else if ((ts.filterMap fun
    | .Name id pos => if (sc.names.lookup id == some .local && pos.line == (ts.head?.map (·.pos.line)).getD 0) = true then some id else none
    | _ => none).length != ts.length || (ts.filterMap fun
    | .Name id pos => if (sc.names.lookup id == some .local && pos.line == (ts.head?.map (·.pos.line)).getD 0) = true then some id else none
    | _ => none).eraseDups.length != (ts.filterMap fun
    | .Name id pos => if (sc.names.lookup id == some .local && pos.line == (ts.head?.map (·.pos.line)).getD 0) = true then some id else none
    | _ => none).length) = true then some none
  else if vs.all (foldedForSure 8) = true then some none
  else if vs.all (constantsAlone 8) = true then none
  else some (some (ts.filterMap fun
    | .Name id pos => if (sc.names.lookup id == some .local && pos.line == (ts.head?.map (·.pos.line)).getD 0) = true then some id else none
    | _ => none))
theorem swpS_ok {sc : Scope} {ts vs : List Expr} {r : Option (List Str)} {k k2 : Nat} {q q2 : Pos} (h : swpS sc ts vs = some r) (env : Env) (he : env.scope = sc) : swappedStores [.Tuple ts k q] (.Tuple vs k2 q2) env = pure r := by
  subst he
  unfold swpS at h
  unfold swappedStores
  show (if (!(ts.length == 2 || ts.length == 3) || vs.length != ts.length || env.blockKind != .function) = true then pure none else _) = _
  split at h
  · rename_i h1
    rw [if_pos (show (!(ts.length == 2 || ts.length == 3) || vs.length != ts.length || env.blockKind != .function) = true from h1)]
    exact congrArg pure (Option.some.inj h)
  · rename_i h1
    rw [if_neg (show ¬ (!(ts.length == 2 || ts.length == 3) || vs.length != ts.length || env.blockKind != .function) = true from h1)]
    show (if (vs.any fun | .Starred .. => true | _ => false) = true then pure none else _) = _
    split at h
    · rename_i h2
      rw [if_pos h2]
      exact congrArg pure (Option.some.inj h)
    · rename_i h2
      rw [if_neg h2]
      split at h
      · rename_i h3
        refine (if_pos ?_).trans (congrArg pure (Option.some.inj h))
        exact h3
      · rename_i h3
        refine (if_neg ?_).trans ?_
        · exact h3
        · split at h
          · rename_i h4
            exact (if_pos h4).trans (congrArg pure (Option.some.inj h))
          · rename_i h4
            refine (if_neg h4).trans ?_
            split at h
            · cases h
            · rename_i h5
              refine (if_neg h5).trans ?_
              exact congrArg pure (Option.some.inj h)
end PQ

/-! The compiler. -/
namespace PQ
open PySem PySem.Spec PyProof.Rows L2
/-- a name's place -/
def idxN (p : Pl) (x : Str) : Option { i : Nat // p.N[i]? = some x } := match p.N.findIdx? (· == x) with
  | some i => if h : p.N[i]? = some x then some ⟨i, h⟩ else none
  | none => none
def nameAt (p : Pl) (x : Str) : Option { i : Nat // NameAt p x i } := match idxN p x with
  | some ⟨i, h⟩ => if h1 : p.sc.names.lookup x = some .local then some ⟨i, h, .inl h1⟩ else if h2 : p.sc.names.lookup x = some .cell then some ⟨i, h, .inr h2⟩ else none
  | none => none
def namesAt (p : Pl) : (es : List Expr) → Option { is : List Nat // NamesAt p es is }
  | [] => some ⟨[], .nil⟩
  | .Name x q :: es => match nameAt p x, namesAt p es with
    | some ⟨i, h⟩, some ⟨is, hs⟩ => some ⟨i :: is, .cons h hs⟩
    | _, _ => none
  | _ => none
def cN (p : Pl) : (tg : Expr) → Option { g : CN // SdN p tg g }
  | .Name x q => match nameAt p x with
    | some ⟨i, h⟩ => some ⟨_, sn_nm h⟩
    | none => none
  | .Tuple es k q => match namesAt p es with
    | some ⟨is, h⟩ => some ⟨_, sn_tup h⟩
    | none => none
  | _ => none
/-- a built-in's name here -/
def isB_ (p : Pl) (x : Str) : Option (PLift (x ∈ p.B ∧ p.sc.names.lookup x = some .globalImplicit)) := if h : x ∈ p.B ∧ p.sc.names.lookup x = some .globalImplicit then some ⟨h⟩ else none
/-- a def's name here -/
def isF_ (p : Pl) (x : Str) : Option { i : Nat // p.T[i]? = some x ∧ p.sc.names.lookup x = some .globalImplicit ∧ (x == ("__debug__" : Str)) = false } := match p.T.findIdx? (· == x) with
  | some i => if h : p.T[i]? = some x ∧ p.sc.names.lookup x = some .globalImplicit ∧ (x == ("__debug__" : Str)) = false then some ⟨i, h⟩ else none
  | none => none
def copOf : (op : CmpOp) → Option { o : Cop // copOp o = op }
  | .Eq => some ⟨.eq, rfl⟩
  | .NotEq => some ⟨.ne, rfl⟩
  | .Lt => some ⟨.lt, rfl⟩
  | .LtE => some ⟨.le, rfl⟩
  | .Gt => some ⟨.gt, rfl⟩
  | .GtE => some ⟨.ge, rfl⟩
  | _ => none
def bopOf : (op : Operator) → Option { o : Bop // bopOp o = op }
  | .Add => some ⟨.add, rfl⟩
  | .Sub => some ⟨.sub, rfl⟩
  | _ => none
/-- a list by its look -/
def looksList : Nat → Expr → Bool
  | _, .List .. => true
  | _, .ListComp .. => true
  | _, .Call (.Name f _) _ _ _ => f == ("list" : Str) || f == ("sorted" : Str)
  | n + 1, .BinOp a .Add b _ => looksList n a || looksList n b
  | _, .Subscript _ (.Slice none none (some _) _) _ => true
  | _, _ => false
/-- what is turned round as a tuple may be -/
def tupLook : Expr → Bool
  | .Name f _ => f == ("parts" : Str)
  | .Subscript _ (.Constant _ _ _) _ => true
  | _ => false
def ownOf (p : Pl) (scope : Scope) : List (Str × Nat) := scope.names.filterMap fun (x, k) => match k with
  | .local => (p.N.findIdx? (· == x)).map fun i => (x, i)
  | .cell => (p.N.findIdx? (· == x)).map fun i => (x, i)
  | _ => none
def glbIn (x : Str) : (l : List (Str × Gv)) → Option { g : Gv // (x, g) ∈ l }
  | [] => none
  | (y, g) :: r => if h : y = x then some ⟨g, by subst h; exact List.mem_cons_self⟩ else (match glbIn x r with
    | some ⟨g, h⟩ => some ⟨g, List.mem_cons_of_mem _ h⟩
    | none => none)
abbrev GlbOk (p : Pl) (x : Str) : Prop := p.sc.names.lookup x = some .globalImplicit ∧ (x == ("__debug__" : Str)) = false
abbrev VisOk (p : Pl) (x : Str) : Prop := (p.sc.names.lookup x = some .local ∨ p.sc.names.lookup x = some .cell ∨ p.sc.names.lookup x = some .free) ∧ (x == ("__debug__" : Str)) = false ∧ (x == ("__classdict__" : Str)) = false
mutual
def cE : Nat → (p : Pl) → (e : Expr) → Option { c : CE // SdE p e c }
  | 0, _, _ => none
  | n + 1, p, e => match cV n p e with
   | some r => some r
   | none => match cQ n p e with
    | some ⟨q, h⟩ => some ⟨_, sd_alloc h⟩
    | none => match e with
      | .Name x q => match idxN p x with
        | some ⟨i, h⟩ => if h2 : VisOk p x then some ⟨_, sd_var h h2.1 h2.2.1 h2.2.2⟩ else none
        | none => (match glbIn x p.G with
          | some ⟨.con d, h⟩ => if h2 : GlbOk p x then some ⟨_, sd_con h h2.1 h2.2⟩ else none
          | _ => none)
      | .Constant (.int i) j q => some ⟨.lit (.int i), sd_int⟩
      | .Constant (.str i) j q => some ⟨.lit (.str i), sd_str⟩
      | .Constant (.bool i) j q => some ⟨.lit (.bl i), sd_bl⟩
      | .Constant .none j q => some ⟨.lit .non, sd_non⟩
      | .Tuple es k q => match cA n p es with
        | some ⟨c, h⟩ => some ⟨_, sd_tup h⟩
        | none => none
      | .BinOp a op b q => match cE n p a, cE n p b with
        | some ⟨ca, ha⟩, some ⟨cb, hb⟩ => (match op with
          | .Add => some ⟨_, sd_add ha hb⟩
          | .Sub => some ⟨_, sd_sub ha hb⟩
          | .Mult => some ⟨_, sd_mul ha hb⟩
          | .FloorDiv => some ⟨_, sd_fdiv ha hb⟩
          | .Mod => some ⟨_, sd_mod ha hb⟩
          | .Pow => some ⟨_, sd_pow ha hb⟩
          | .LShift => some ⟨_, sd_shl ha hb⟩
          | .RShift => some ⟨_, sd_shr ha hb⟩
          | .BitAnd => some ⟨_, sd_band ha hb⟩
          | .BitOr => some ⟨_, sd_bor ha hb⟩
          | .BitXor => some ⟨_, sd_bxor ha hb⟩
          | _ => none)
        | _, _ => none
      | .UnaryOp .USub a q => match cE n p a with
        | some ⟨ca, ha⟩ => some ⟨_, sd_neg ha⟩
        | none => none
      | .UnaryOp .Not a q => match cE n p a with
        | some ⟨ca, ha⟩ => some ⟨_, sd_not ha⟩
        | none => none
      | .BoolOp op [a] q => match cE n p a with
        | some ⟨ca, ha⟩ => some ⟨ca, sd_one ha⟩
        | none => none
      | .BoolOp .And (a :: b :: r) q => match cE n p a, cE n p (.BoolOp .And (b :: r) q) with
        | some ⟨ca, ha⟩, some ⟨cb, hb⟩ => some ⟨_, sd_and ha hb⟩
        | _, _ => none
      | .BoolOp .Or (a :: b :: r) q => match cE n p a, cE n p (.BoolOp .Or (b :: r) q) with
        | some ⟨ca, ha⟩, some ⟨cb, hb⟩ => some ⟨_, sd_or ha hb⟩
        | _, _ => none
      | .IfExp t a b q => match cT n p t, cE n p a, cE n p b with
        | some ⟨ct, ht⟩, some ⟨ca, ha⟩, some ⟨cb, hb⟩ => some ⟨_, sd_ife ht ha hb⟩
        | _, _, _ => none
      | .Compare a ops bs q => match cC n p (.Compare a ops bs q) with
        | some ⟨c, h⟩ => some ⟨c, h.1.val⟩
        | none => none
      | .Subscript a (.Slice lo hi none p2) q => match cE n p a, cO n p lo, cO n p hi with
        | some ⟨ca, ha⟩, some ⟨cl, hl⟩, some ⟨ch, hh⟩ => some ⟨_, sd_slc ha hl hh⟩
        | _, _, _ => none
      | .Subscript a b q => if hn : notSlice b = true then (match cE n p a, cE n p b with
        | some ⟨ca, ha⟩, some ⟨cb, hb⟩ => some ⟨_, sd_idx hn ha hb⟩
        | _, _ => none) else none
      | .Dict [] [] q => some ⟨_, sd_dnew⟩
      | .Call (.Attribute a m ap) [k, x] [] q => if hc : m = "get" ∧ notCall a = true ∧ (ap.endLine == q.line) = true ∧ notStar k = true ∧ notStar x = true then (match cE n p a, cE n p k, cE n p x with
        | some ⟨ca, ha⟩, some ⟨ck, hk⟩, some ⟨cx, hx⟩ => some ⟨.dget ca ck cx, by
          obtain ⟨h1, h2, h3, h4, h5⟩ := hc
          subst h1
          exact sd_dget h2 h3 h4 h5 ha hk hx⟩
        | _, _, _ => none)
        else if hc : m = "setdefault" ∧ notCall a = true ∧ (ap.endLine == q.line) = true ∧ notStar k = true ∧ notStar x = true then (match cE n p a, cE n p k, cE n p x with
        | some ⟨ca, ha⟩, some ⟨ck, hk⟩, some ⟨cx, hx⟩ => some ⟨.dsetd ca ck cx, by
          obtain ⟨h1, h2, h3, h4, h5⟩ := hc
          subst h1
          exact sd_dsetd h2 h3 h4 h5 ha hk hx⟩
        | _, _, _ => none)
        else if hc : m = "insert" ∧ notCall a = true ∧ (ap.endLine == q.line) = true ∧ notStar k = true ∧ notStar x = true then (match cE n p a, cE n p k, cE n p x with
        | some ⟨ca, ha⟩, some ⟨ck, hk⟩, some ⟨cx, hx⟩ => some ⟨.ins ca ck cx, by
          obtain ⟨h1, h2, h3, h4, h5⟩ := hc
          subst h1
          exact sd_ins h2 h3 h4 h5 ha hk hx⟩
        | _, _, _ => none) else none
      | .Call (.Attribute a m ap) [] [] q => if hc : notCall a = true ∧ (ap.endLine == q.line) = true then (match cE n p a with
        | some ⟨ca, ha⟩ => if h : m = "pop" then some ⟨.pop ca, by subst h; exact sd_pop hc.1 hc.2 ha⟩ else none
        | none => none) else none
      | .Call (.Attribute (.Constant (.str s) j cp) m ap) [e] [] q => if hc : m = "join" ∧ (ap.endLine == q.line) = true ∧ notStar e = true then (match cR n p e with
        | some ⟨cr, hr⟩ => some ⟨.join s cr, by
          obtain ⟨h1, h2, h3⟩ := hc
          subst h1
          exact sd_join h2 h3 hr⟩
        | none => none) else none
      | .Call (.Attribute a m ap) [e] [] q => if hc : notCall a = true ∧ (ap.endLine == q.line) = true ∧ notStar e = true then (match cE n p a with
        | some ⟨ca, ha⟩ =>
          if h : m = "extend" then (match cR n p e with
            | some ⟨cr, hr⟩ => some ⟨.ext ca cr, by subst h; exact sd_ext hc.1 hc.2.1 hc.2.2 ha hr⟩
            | none => none)
          else (match cE n p e with
            | some ⟨ce, he⟩ =>
              if h : m = "append" then some ⟨.app ca ce, by subst h; exact sd_app hc.1 hc.2.1 hc.2.2 ha he⟩
              else if h : m = "pop" then some ⟨.popAt ca ce, by subst h; exact sd_popAt hc.1 hc.2.1 hc.2.2 ha he⟩
              else if h : m = "get" then some ⟨.dget ca ce (.lit .non), by subst h; exact sd_dget1 hc.1 hc.2.1 hc.2.2 ha he⟩
              else if h : m = "index" then some ⟨.tix ca ce, by subst h; exact sd_tix hc.1 hc.2.1 hc.2.2 ha he⟩
              else none
            | none => none)
        | none => none) else none
      | .Call (.Name f q2) es [] q => match isF_ p f with
        | some ⟨i, hf⟩ => (match es with
          | [] => some ⟨_, sd_call0 hf.1 hf.2.1 hf.2.2⟩
          | e :: es => if hs : notStar e = true ∧ es.all notStar = true then (match cA n p (e :: es) with
            | some ⟨c, h⟩ => some ⟨_, sd_call hf.1 hf.2.1 hf.2.2 hs.1 hs.2 h⟩
            | none => none) else none)
        | none => match isB_ p f with
          | some ⟨hb⟩ => (match es with
            | [.Call (.Name f2 q3) es2 [] q4] => (match isB_ p f2 with
              | some ⟨hb2⟩ => if h : f = "tuple" ∧ f2 = "range" then (match es2 with
                  | [a] => if hs : notStar a = true then (match cE n p a with
                    | some ⟨ca, ha⟩ => some ⟨.agg .tuple (.q (.listRg (.lit (.int 0)) ca)), by obtain ⟨h1, h2⟩ := h; subst h1 h2; exact sd_tupRg1 hb.1 hb.2 hb2.1 hb2.2 hs ha⟩
                    | none => none) else none
                  | [a, b] => if hs : notStar a = true ∧ notStar b = true then (match cE n p a, cE n p b with
                    | some ⟨ca, ha⟩, some ⟨cb, hb'⟩ => some ⟨.agg .tuple (.q (.listRg ca cb)), by obtain ⟨h1, h2⟩ := h; subst h1 h2; exact sd_tupRg2 hb.1 hb.2 hb2.1 hb2.2 hs.1 hs.2 ha hb'⟩
                    | _, _ => none) else none
                  | _ => none) else cBI n p f hb (.Call (.Name f2 q3) es2 [] q4) q2 q
              | none => cBI n p f hb (.Call (.Name f2 q3) es2 [] q4) q2 q)
            | [e] => cBI n p f hb e q2 q
            | [a, b] => if hs : notStar a = true ∧ notStar b = true then
                (if h : f = "isinstance" then (match b with
                  | .Name T q3 => (match isB_ p T, cE n p a with
                    | some ⟨hT⟩, some ⟨ca, ha⟩ =>
                      if h2 : T = "int" then some ⟨.isi ca .int, by subst h h2; exact sd_isi (t := .int) hb.1 hb.2 hT.1 hT.2 (by decide +kernel) (by decide) (by decide) hs.1 ha⟩
                      else if h2 : T = "bool" then some ⟨.isi ca .bool, by subst h h2; exact sd_isi (t := .bool) hb.1 hb.2 hT.1 hT.2 (by decide +kernel) (by decide) (by decide) hs.1 ha⟩
                      else if h2 : T = "str" then some ⟨.isi ca .str, by subst h h2; exact sd_isi (t := .str) hb.1 hb.2 hT.1 hT.2 (by decide +kernel) (by decide) (by decide) hs.1 ha⟩
                      else if h2 : T = "tuple" then some ⟨.isi ca .tuple, by subst h h2; exact sd_isi (t := .tuple) hb.1 hb.2 hT.1 hT.2 (by decide +kernel) (by decide) (by decide) hs.1 ha⟩
                      else none
                    | _, _ => none)
                  | _ => none)
                else (match cE n p a, cE n p b with
                  | some ⟨ca, ha⟩, some ⟨cb, hb'⟩ =>
                    if h : f = "min" then some ⟨.fn2 .min ca cb, by subst h; exact sd_min2 hb.1 hb.2 hs.1 hs.2 ha hb'⟩
                    else if h : f = "max" then some ⟨.fn2 .max ca cb, by subst h; exact sd_max2 hb.1 hb.2 hs.1 hs.2 ha hb'⟩
                    else none
                  | _, _ => none)) else none
            | _ => none)
          | none => (match es with
            | [a, b] => (match glbIn f p.G with
              | some ⟨.fn id, hm⟩ => if hs : (notStar a = true ∧ notStar b = true) ∧ GlbOk p f then (if h : id = "math.gcd" then (match cE n p a, cE n p b with
                | some ⟨ca, ha⟩, some ⟨cb, hb'⟩ => some ⟨.fn2 .gcd ca cb, by subst h; exact sd_gcd hm hs.2.1 hs.2.2 hs.1.1 hs.1.2 ha hb'⟩
                | _, _ => none) else none) else none
              | _ => none)
            | _ => none)
      | _ => none
/-- t[::-1], of what may be a tuple -/
def cV : Nat → (p : Pl) → (e : Expr) → Option { c : CE // SdE p e c }
  | 0, _, _ => none
  | n + 1, p, e => match e with
    | .Subscript a (.Slice none none (some (.UnaryOp .USub (.Constant (.int 1) k p1) p2)) p3) q => if tupLook a = true then (match cR n p a with
      | some ⟨ca, ha⟩ => some ⟨_, sd_rv ha⟩
      | none => none) else none
    | _ => none
/-- a built-in of one argument -/
def cBI : Nat → (p : Pl) → (f : Str) → (hb : f ∈ p.B ∧ p.sc.names.lookup f = some .globalImplicit) → (e : Expr) → (q2 q : Pos) → Option { c : CE // SdE p (.Call (.Name f q2) [e] [] q) c }
  | 0, _, _, _, _, _, _ => none
  | n + 1, p, f, hb, e, q2, q => if hs : notStar e = true then
                (if h : f = "int" then (match cE n p e with
                  | some ⟨c, hc⟩ => some ⟨.fn1 .int c, by subst h; exact sd_intT hb.1 hb.2 hs hc⟩
                  | none => none)
                else if h : f = "abs" then (match cE n p e with
                  | some ⟨c, hc⟩ => some ⟨.fn1 .abs c, by subst h; exact sd_abs hb.1 hb.2 hs hc⟩
                  | none => none)
                else if h : f = "str" then (match cE n p e with
                  | some ⟨c, hc⟩ => some ⟨.fn1 .str c, by subst h; exact sd_strT hb.1 hb.2 hs hc⟩
                  | none => none)
                else if h : f = "repr" then (match cE n p e with
                  | some ⟨c, hc⟩ => some ⟨.fn1 .repr c, by subst h; exact sd_repr hb.1 hb.2 hs hc⟩
                  | none => none)
                else (match cR n p e with
                  | some ⟨c, hc⟩ =>
                    if h : f = "len" then some ⟨.agg .len c, by subst h; exact sd_len hb.1 hb.2 hs hc⟩
                    else if h : f = "tuple" then some ⟨.agg .tuple c, by subst h; exact sd_tuple hb.1 hb.2 hs hc⟩
                    else if h : f = "sum" then some ⟨.agg .sum c, by subst h; exact sd_sum hb.1 hb.2 hs hc⟩
                    else if h : f = "all" then some ⟨.agg .all c, by subst h; exact sd_all hb.1 hb.2 hs hc⟩
                    else if h : f = "any" then some ⟨.agg .any c, by subst h; exact sd_any hb.1 hb.2 hs hc⟩
                    else if h : f = "max" then some ⟨.agg .max c, by subst h; exact sd_max hb.1 hb.2 hs hc⟩
                    else if h : f = "min" then some ⟨.agg .min c, by subst h; exact sd_min hb.1 hb.2 hs hc⟩
                    else none
                  | none => none)) else none
def cO : Nat → (p : Pl) → (e : Option Expr) → Option { c : CO // SdO p e c }
  | 0, _, _ => none
  | n + 1, p, none => some ⟨.none, so_none⟩
  | n + 1, p, some e => match cE n p e with
    | some ⟨c, h⟩ => some ⟨_, so_some h⟩
    | none => none
def cA : Nat → (p : Pl) → (es : List Expr) → Option { c : CEs // SdA p es c }
  | 0, _, _ => none
  | n + 1, p, [] => some ⟨.nil, sa_nil⟩
  | n + 1, p, e :: es => if hs : notStar e = true then (match cE n p e, cA n p es with
    | some ⟨c, h⟩, some ⟨cs, hs'⟩ => some ⟨_, sa_cons h hs' (fun env => star_cons hs es env)⟩
    | _, _ => none) else none
def cR : Nat → (p : Pl) → (e : Expr) → Option { c : CR // SdR p e c }
  | 0, _, _ => none
  | n + 1, p, e => match cQ n p e with
    | some ⟨q, h⟩ => some ⟨_, sr_q h⟩
    | none => match cE n p e with
      | some ⟨c, h⟩ => some ⟨_, sr_e h⟩
      | none => none
def cQ : Nat → (p : Pl) → (e : Expr) → Option { c : CQ // SdQ p e c }
  | 0, _, _ => none
  | n + 1, p, e => match e with
    | .List es q => match cA n p es with
      | some ⟨c, h⟩ => some ⟨_, sq_disp h⟩
      | none => none
    | .ListComp elt [⟨tg, iter, [], 0⟩] scope q =>
      if hs : blkC p.N p.sc scope (ownOf p scope) = true ∧ notSet iter = true then (match cI n p tg iter, cN (p.within scope) tg, cE n (p.within scope) elt with
        | some ⟨ii, hi⟩, some ⟨g, hg⟩, some ⟨ce, he⟩ => if h : storeB p scope g = true ∧ inOwn (ownOf p scope) g = true then some ⟨_, sq_comp hi hs.1 hg h.1 h.2 he hs.2⟩ else none
        | _, _, _ => none) else none
    | .ListComp elt [⟨tg, iter, [c], 0⟩] scope q =>
      if hs : blkC p.N p.sc scope (ownOf p scope) = true ∧ notSet iter = true then (match cI n p tg iter, cN (p.within scope) tg, cE n (p.within scope) elt, cT n (p.within scope) c with
        | some ⟨ii, hi⟩, some ⟨g, hg⟩, some ⟨ce, he⟩, some ⟨ct, ht⟩ => if h : storeB p scope g = true ∧ inOwn (ownOf p scope) g = true then some ⟨_, sq_compIf hi hs.1 hg h.1 h.2 he hs.2 ht⟩ else none
        | _, _, _, _ => none) else none
    | .BinOp a .Add b q => if looksList 20 a || looksList 20 b then (match cR n p a, cR n p b with
      | some ⟨ca, ha⟩, some ⟨cb, hb⟩ => some ⟨_, sq_cat ha hb⟩
      | _, _ => none) else none
    | .Subscript a (.Slice none none (some (.UnaryOp .USub (.Constant (.int 1) k p1) p2)) p3) q => match cR n p a with
      | some ⟨ca, ha⟩ => some ⟨_, sq_rev ha⟩
      | none => none
    | .Call (.Name f q2) [.Call (.Name f2 q3) es2 [] q4] [] q => match isB_ p f, isB_ p f2 with
      | some ⟨hb⟩, some ⟨hb2⟩ => if h : f = "list" ∧ f2 = "range" then (match es2 with
          | [a] => if hs : notStar a = true then (match cE n p a with
            | some ⟨ca, ha⟩ => some ⟨.listRg (.lit (.int 0)) ca, by obtain ⟨h1, h2⟩ := h; subst h1 h2; exact sq_listRg1 hb.1 hb.2 hb2.1 hb2.2 hs ha⟩
            | none => none) else none
          | [a, b] => if hs : notStar a = true ∧ notStar b = true then (match cE n p a, cE n p b with
            | some ⟨ca, ha⟩, some ⟨cb, hb'⟩ => some ⟨.listRg ca cb, by obtain ⟨h1, h2⟩ := h; subst h1 h2; exact sq_listRg2 hb.1 hb.2 hb2.1 hb2.2 hs.1 hs.2 ha hb'⟩
            | _, _ => none) else none
          | _ => none)
        else if h : f = "sorted" ∧ f2 = "set" then (match es2 with
          | [a] => if hs : notStar a = true then (match cR n p a with
            | some ⟨ca, ha⟩ => some ⟨.sset ca, by obtain ⟨h1, h2⟩ := h; subst h1 h2; exact sq_sset hb.1 hb.2 hb2.1 hb2.2 hs ha⟩
            | none => none) else none
          | _ => none)
        else if hf : f = "list" ∨ f = "sorted" then (match cR n p (.Call (.Name f2 q3) es2 [] q4) with
          | some ⟨c, hc⟩ =>
            if h : f = "list" then some ⟨.list c, by subst h; exact sq_list hb.1 hb.2 rfl hc⟩
            else if h : f = "sorted" then some ⟨.sorted c, by subst h; exact sq_sorted hb.1 hb.2 rfl hc⟩
            else none
          | none => none) else none
      | some ⟨hb⟩, none => if hf : f = "list" ∨ f = "sorted" then (match cR n p (.Call (.Name f2 q3) es2 [] q4) with
          | some ⟨c, hc⟩ =>
            if h : f = "list" then some ⟨.list c, by subst h; exact sq_list hb.1 hb.2 rfl hc⟩
            else if h : f = "sorted" then some ⟨.sorted c, by subst h; exact sq_sorted hb.1 hb.2 rfl hc⟩
            else none
          | none => none) else none
      | _, _ => none
    | .Call (.Name f q2) [e] [] q => match isB_ p f with
      | some ⟨hb⟩ => if hs : notStar e = true ∧ (f = "list" ∨ f = "sorted") then (match cR n p e with
          | some ⟨c, hc⟩ =>
            if h : f = "list" then some ⟨.list c, by subst h; exact sq_list hb.1 hb.2 hs.1 hc⟩
            else if h : f = "sorted" then some ⟨.sorted c, by subst h; exact sq_sorted hb.1 hb.2 hs.1 hc⟩
            else none
          | none => none) else none
      | none => none
    | _ => none
def cI : Nat → (p : Pl) → (tg e : Expr) → Option { c : CI // SdI p tg e c }
  | 0, _, _, _ => none
  | n + 1, p, tg, e => match e with
    | .Call (.Name f q) [a] [] pos => (match isB_ p f with
      | some ⟨hb⟩ => if h : f = "range" ∧ notStar a = true then (match cE n p a with
          | some ⟨ca, ha⟩ => some ⟨.rg (.lit (.int 0)) ca, by obtain ⟨h1, h2⟩ := h; subst h1; exact si_rg1 (pos2 := pos) hb.1 hb.2 h2 ha⟩
          | none => none)
        else (match cR n p (.Call (.Name f q) [a] [] pos) with
          | some ⟨c, h⟩ => some ⟨_, si_r h⟩
          | none => none)
      | none => (match cR n p (.Call (.Name f q) [a] [] pos) with
          | some ⟨c, h⟩ => some ⟨_, si_r h⟩
          | none => none))
    | .Call (.Name f q) [a, b, .UnaryOp .USub (.Constant (.int 1) _ p1) p2] [] pos => (match isB_ p f with
      | some ⟨hb⟩ => if h : f = "range" ∧ notStar a = true ∧ notStar b = true then (match cE n p a, cE n p b with
          | some ⟨ca, ha⟩, some ⟨cb, hb'⟩ => some ⟨.rgd ca cb, by obtain ⟨h1, h2, h3⟩ := h; subst h1; exact si_rgd (pos2 := pos) hb.1 hb.2 h2 h3 ha hb'⟩
          | _, _ => none)
        else none
      | none => (match cR n p (.Call (.Name f q) [a, b, .UnaryOp .USub (.Constant (.int 1) _ p1) p2] [] pos) with
          | some ⟨c, h⟩ => some ⟨_, si_r h⟩
          | none => none))
    | .Call (.Name f q) [a, b] [] pos => (match isB_ p f with
      | some ⟨hb⟩ => if h : f = "range" ∧ notStar a = true ∧ notStar b = true then (match cE n p a, cE n p b with
          | some ⟨ca, ha⟩, some ⟨cb, hb'⟩ => some ⟨.rg ca cb, by obtain ⟨h1, h2, h3⟩ := h; subst h1; exact si_rg2 (pos2 := pos) hb.1 hb.2 h2 h3 ha hb'⟩
          | _, _ => none)
        else (match cR n p (.Call (.Name f q) [a, b] [] pos) with
          | some ⟨c, h⟩ => some ⟨_, si_r h⟩
          | none => none)
      | none => (match cR n p (.Call (.Name f q) [a, b] [] pos) with
          | some ⟨c, h⟩ => some ⟨_, si_r h⟩
          | none => none))
    | e => (match cR n p e with
      | some ⟨c, h⟩ => some ⟨_, si_r h⟩
      | none => none)
def cC : Nat → (p : Pl) → (e : Expr) → Option { c : CE // SdC p e c ∧ ∀ C ρ S d S', evE C c ρ S = .ok d S' → isB d = true }
  | 0, _, _ => none
  | n + 1, p, e => match e with
    | .Compare a [.Is] [.Constant .none j q2] q => (match cE n p a with
      | some ⟨ca, ha⟩ => some ⟨_, sc_isN ha, b_isN⟩
      | none => none)
    | .Compare a [.IsNot] [.Constant .none j q2] q => (match cE n p a with
      | some ⟨ca, ha⟩ => some ⟨_, sc_notN ha, b_notN⟩
      | none => none)
    | .Compare a [.In] [b] q => if hm : behindInMarks .In b = false then (match cE n p a, cR n p b with
      | some ⟨ca, ha⟩, some ⟨cb, hb⟩ => some ⟨_, sc_in hm ha hb, b_in⟩
      | _, _ => none) else none
    | .Compare a [.NotIn] [b] q => if hm : behindInMarks .NotIn b = false then (match cE n p a, cR n p b with
      | some ⟨ca, ha⟩, some ⟨cb, hb⟩ => some ⟨_, sc_notIn hm ha hb, b_notIn⟩
      | _, _ => none) else none
    | .Compare a [op] [b] q => (match copOf op, cE n p a, cE n p b with
      | some ⟨o, ho⟩, some ⟨ca, ha⟩, some ⟨cb, hb⟩ => some ⟨.cmp o ca cb, by subst ho; exact sc_cmp o ha hb, b_cmp⟩
      | _, _, _ => none)
    | .Compare a [op, op2] [b, c] q => (match copOf op, copOf op2, cE n p a, cE n p b, cE n p c with
      | some ⟨o, ho⟩, some ⟨o2, ho2⟩, some ⟨ca, ha⟩, some ⟨cb, hb⟩, some ⟨cc, hc⟩ => if hm : lastMarks [op, op2] [b, c] = false then some ⟨.chn o o2 ca cb cc, by subst ho ho2; exact sc_chn o o2 hm ha hb hc, b_chn⟩ else none
      | _, _, _, _, _ => none)
    | _ => none
def cT : Nat → (p : Pl) → (e : Expr) → Option { c : CT // SdT p e c }
  | 0, _, _ => none
  | n + 1, p, e => match e with
    | .UnaryOp .Not a q => (match cT n p a with
      | some ⟨c, h⟩ => some ⟨_, st_not h⟩
      | none => none)
    | .BoolOp op vs q => (match cW n p (.BoolOp op vs q) with
      | some ⟨c, h⟩ => some ⟨c, st_w h⟩
      | none => none)
    | .Compare a ops bs q => (match cC n p (.Compare a ops bs q) with
      | some ⟨c, h⟩ => some ⟨.v c, h.1.test h.2⟩
      | none => none)
    | e => if hp : plainTest e = true then (match cE n p e with
      | some ⟨c, h⟩ => some ⟨_, st_plain hp h⟩
      | none => none) else none
def cW : Nat → (p : Pl) → (e : Expr) → Option { c : CT // SdW p e c }
  | 0, _, _ => none
  | n + 1, p, e => match e with
    | .BoolOp .And [a] q => (match cT n p a with
      | some ⟨c, h⟩ => some ⟨c, sw_and1 h⟩
      | none => none)
    | .BoolOp .Or [a] q => (match cT n p a with
      | some ⟨c, h⟩ => some ⟨c, sw_or1 h⟩
      | none => none)
    | .BoolOp .And (a :: b :: r) q => (match cT n p a, cW n p (.BoolOp .And (b :: r) q) with
      | some ⟨ca, ha⟩, some ⟨cb, hb⟩ => some ⟨_, sw_and ha hb⟩
      | _, _ => none)
    | .BoolOp .Or (a :: b :: r) q => (match cT n p a, cW n p (.BoolOp .Or (b :: r) q) with
      | some ⟨ca, ha⟩, some ⟨cb, hb⟩ => some ⟨_, sw_or ha hb⟩
      | _, _ => none)
    | _ => none
end
end PQ

/-! The compiler of statements; whole defs. -/
namespace PQ
open PySem PySem.Spec PyProof.Rows L2
/-- a loop over a name: the name's own meaning -/
def varOf (m : Nat) (p : Pl) (e : Expr) : (ii : CI) → Option (PLift (∀ i, ii = .r (.e (.var i)) → SdE p e (.var i)))
  | .r (.e (.var j)) => match cE m p e with
    | some ⟨.var i, h⟩ => if q : i = j then some ⟨fun k z => by
        have : j = k := by injection z with z; injection z with z; injection z
        rw [← this, ← q]; exact h⟩ else none
    | _ => none
  | .r (.e (.lit _)) => some ⟨fun _ z => by injection z with z; injection z with z; cases z⟩
  | .r (.e (.call _ _)) => some ⟨fun _ z => by injection z with z; injection z with z; cases z⟩
  | .r (.e (.idx _ _)) => some ⟨fun _ z => by injection z with z; injection z with z; cases z⟩
  | .r (.e (.slc _ _ _)) => some ⟨fun _ z => by injection z with z; injection z with z; cases z⟩
  | .r (.e (.tup _)) => some ⟨fun _ z => by injection z with z; injection z with z; cases z⟩
  | .r (.e (.alloc _)) => some ⟨fun _ z => by injection z with z; injection z with z; cases z⟩
  | .r (.e (.agg _ _)) => some ⟨fun _ z => by injection z with z; injection z with z; cases z⟩
  | .r (.e (.bin _ _ _)) => some ⟨fun _ z => by injection z with z; injection z with z; cases z⟩
  | .r (.e (.ife _ _ _)) => some ⟨fun _ z => by injection z with z; injection z with z; cases z⟩
  | .r (.q _) => some ⟨fun _ z => by injection z with z; cases z⟩
  | .rg _ _ => some ⟨fun _ z => by cases z⟩
  | .rgd _ _ => some ⟨fun _ z => by cases z⟩
  | _ => none
/-- a comprehension's parts -/
def asgLc0 (m : Nat) (p : Pl) (x : Str) (q2 : Pos) (q : Pos) (elt tg iter : Expr) (scope : Scope) (q3 : Pos) : Option { c : CS // SdS p (.Assign [.Name x q2] (.ListComp elt [⟨tg, iter, [], 0⟩] scope q3) q) c } :=
  if hs : blkC p.N p.sc scope (ownOf p scope) = true ∧ notSet iter = true ∧ p.sc.names.lookup x = some .local ∧ swapB p.sc x scope q2.line q3.line = true then (match idxN p x, cI m p tg iter, cN (p.within scope) tg, cE m (p.within scope) elt with
    | some ⟨j, hj⟩, some ⟨ii, hi⟩, some ⟨g, hg⟩, some ⟨ce, he⟩ => if h : storeB p scope g = true ∧ inOwn (ownOf p scope) g = true then some ⟨_, s_setLc hj hs.2.2.1 hs.2.2.2 hi hs.1 hg h.1 h.2 he hs.2.1⟩ else none
    | _, _, _, _ => none) else none
def asgLc1 (m : Nat) (p : Pl) (x : Str) (q2 : Pos) (q : Pos) (elt tg iter c : Expr) (scope : Scope) (q3 : Pos) : Option { r : CS // SdS p (.Assign [.Name x q2] (.ListComp elt [⟨tg, iter, [c], 0⟩] scope q3) q) r } :=
  if hs : blkC p.N p.sc scope (ownOf p scope) = true ∧ notSet iter = true ∧ p.sc.names.lookup x = some .local ∧ swapB p.sc x scope q2.line q3.line = true then (match idxN p x, cI m p tg iter, cN (p.within scope) tg, cE m (p.within scope) elt, cT m (p.within scope) c with
    | some ⟨j, hj⟩, some ⟨ii, hi⟩, some ⟨g, hg⟩, some ⟨ce, he⟩, some ⟨ct, ht⟩ => if h : storeB p scope g = true ∧ inOwn (ownOf p scope) g = true then some ⟨_, s_setLcIf hj hs.2.2.1 hs.2.2.2 hi hs.1 hg h.1 h.2 he hs.2.1 ht⟩ else none
    | _, _, _, _, _ => none) else none
def asgGs (m : Nat) (p : Pl) (x : Str) (q2 : Pos) (q : Pos) (elt : Expr) (scope : Scope) (q3 : Pos) : (gs : List Comprehension) → Option { c : CS // SdS p (.Assign [.Name x q2] (.ListComp elt gs scope q3) q) c }
  | [⟨tg, iter, ifs, a⟩] => if ha : a = 0 then (match ifs with
      | [] => by subst ha; exact asgLc0 m p x q2 q elt tg iter scope q3
      | [c] => by subst ha; exact asgLc1 m p x q2 q elt tg iter c scope q3
      | _ => none) else none
  | _ => none
def asgName (m : Nat) (p : Pl) (x : Str) (q2 : Pos) (e : Expr) (q : Pos) : Option { c : CS // SdS p (.Assign [.Name x q2] e q) c } :=
  if hsw : swB p.sc e x q2.line = false then (match nameAt p x, cE m p e with
    | some ⟨j, hj⟩, some ⟨c, h⟩ => some ⟨_, s_setN hj h (fun env he => swB_ok hsw env he)⟩
    | _, _ => none)
  else (match e with
    | .ListComp elt gs scope q3 => asgGs m p x q2 q elt scope q3 gs
    | _ => none)
def nm? : (e : Expr) → Option { x : Str × Pos // e = .Name x.1 x.2 }
  | .Name x q => some ⟨(x, q), rfl⟩
  | _ => none
def asgPar (m : Nat) (p : Pl) (q q2 q3 : Pos) (k k2 : Nat) (e1 e2 a b : Expr) : Option { c : CS // SdS p (.Assign [.Tuple [e1, e2] k q2] (.Tuple [a, b] k2 q3) q) c } := match nm? e1, nm? e2 with
  | some ⟨x, hx⟩, some ⟨y, hy⟩ => (match idxN p x.1, idxN p y.1, cE m p a, cE m p b with
    | some ⟨j, hj⟩, some ⟨k', hk⟩, some ⟨ca, ha⟩, some ⟨cb, hb⟩ => if h : j ≠ k' ∧ p.sc.names.lookup x.1 = some .local ∧ p.sc.names.lookup y.1 = some .local ∧ notStar a = true ∧ notStar b = true ∧ swpS p.sc [.Name x.1 x.2, .Name y.1 y.2] [a, b] = some (some [x.1, y.1]) then
        some ⟨.par j k' ca cb, by subst hx hy; exact s_par hj hk h.1 h.2.1 h.2.2.1 h.2.2.2.1 h.2.2.2.2.1 ha hb (fun env he => swpS_ok h.2.2.2.2.2 env he)⟩ else none
    | _, _, _, _ => none)
  | _, _ => none
def asgTT (m : Nat) (p : Pl) (es vs : List Expr) (q q2 q3 : Pos) (k k2 : Nat) : Option { c : CS // SdS p (.Assign [.Tuple es k q2] (.Tuple vs k2 q3) q) c } :=
  if hw : swpS p.sc es vs = some none then (match namesAt p es, cE m p (.Tuple vs k2 q3) with
    | some ⟨is, hi⟩, some ⟨c, h⟩ => some ⟨_, s_setT hi h (fun env he => swpS_ok hw env he)⟩
    | _, _ => none)
  else (match es with
    | [e1, e2] => (match vs with
      | [a, b] => asgPar m p q q2 q3 k k2 e1 e2 a b
      | _ => none)
    | _ => none)
def notTup : Expr → Bool
  | .Tuple .. => false
  | _ => true
theorem sw_no {ts : Expr} {e : Expr} (h : notTup e = true) (env : Env) : swappedStores [ts] e env = pure none := by
  cases e <;> first | (cases h; done) | (cases ts <;> rfl)
def asgTup (m : Nat) (p : Pl) (es : List Expr) (k : Nat) (q2 : Pos) (e : Expr) (q : Pos) : Option { c : CS // SdS p (.Assign [.Tuple es k q2] e q) c } :=
  if hw : notTup e = true then (match namesAt p es, cE m p e with
    | some ⟨is, hi⟩, some ⟨c, h⟩ => some ⟨_, s_setT hi h (fun env _ => sw_no hw env)⟩
    | _, _ => none)
  else (match e with
    | .Tuple vs k2 q3 => asgTT m p es vs q q2 q3 k k2
    | _ => none)
def asgSub (m : Nat) (p : Pl) (o i : Expr) (q2 : Pos) (e : Expr) (q : Pos) : Option { c : CS // SdS p (.Assign [.Subscript o i q2] e q) c } :=
  if hn : notSlice i = true then (match cE m p o, cE m p i, cE m p e with
    | some ⟨co, ho⟩, some ⟨ci, hi⟩, some ⟨c, h⟩ => some ⟨_, s_sub2 hn ho hi h⟩
    | _, _, _ => none) else none
def cAsg (m : Nat) (p : Pl) (e : Expr) (q : Pos) : (t : Expr) → Option { c : CS // SdS p (.Assign [t] e q) c }
  | .Name x q2 => asgName m p x q2 e q
  | .Tuple es k q2 => asgTup m p es k q2 e q
  | .Subscript o i q2 => asgSub m p o i q2 e q
  | _ => none
def cAug (m : Nat) (p : Pl) (op : Operator) (e : Expr) (q : Pos) : (t : Expr) → Option { c : CS // SdS p (.AugAssign t op e q) c }
  | .Name x q2 => (match bopOf op, nameAt p x, cE m p e with
      | some ⟨f, hf⟩, some ⟨j, hj⟩, some ⟨c, h⟩ => some ⟨.aug j f c, by subst hf; exact s_aug hj h⟩
      | _, _, _ => none)
  | .Subscript o i q2 => if hn : notSlice i = true then (match bopOf op, cE m p o, cE m p i, cE m p e with
      | some ⟨f, hf⟩, some ⟨co, ho⟩, some ⟨ci, hi⟩, some ⟨c, h⟩ => some ⟨.augS co ci f c, by subst hf; exact s_augS hn ho hi h⟩
      | _, _, _, _ => none) else none
  | _ => none
mutual
def cS (m : Nat) : Nat → (p : Pl) → (s : Stmt) → Option { c : CS // SdS p s c }
  | 0, _, _ => none
  | n + 1, p, s => match s with
    | .Pass q => some ⟨.pass, s_pass⟩
    | .Break q => some ⟨.brk, s_brk⟩
    | .Continue q => some ⟨.cont, s_cont⟩
    | .Return r q => (match r with
      | some e => (match cE m p e with
        | some ⟨c, h⟩ => some ⟨_, s_ret h⟩
        | none => none)
      | none => none)
    | .Expr e q => if hn : notComp e = true then (match cE m p e with
      | some ⟨c, h⟩ => some ⟨_, s_ex hn h⟩
      | none => none) else none
    | .If t a b q => (match cT m p t, cSs m n p a, cSs m n p b with
      | some ⟨ct, ht⟩, some ⟨ca, ha⟩, some ⟨cb, hb⟩ => some ⟨_, s_if ht ha hb⟩
      | _, _, _ => none)
    | .For tg iter b oe q => (match oe with
      | [] => if hs : notSet iter = true then (match cI m p tg iter, cN p tg, cSs m n p b with
        | some ⟨ii, hi⟩, some ⟨g, hg⟩, some ⟨cb, hb⟩ => (match varOf m p iter ii with
          | some hv => some ⟨_, s_for hs hi hv.down hg hb⟩
          | none => none)
        | _, _, _ => none) else none
      | _ => none)
    | .Raise e1 e2 q => some ⟨_, s_raise⟩
    | .While t b oe q => (match oe with
      | [] => (match cT m p t, cSs m n p b with
        | some ⟨ct, ht⟩, some ⟨cb, hb⟩ => some ⟨_, s_while ht hb⟩
        | _, _ => none)
      | _ => none)
    | .AugAssign t op e q => cAug m p op e q t
    | .Assign ts e q => (match ts with
      | [t] => cAsg m p e q t
      | _ => none)
    | _ => none
def cSs (m : Nat) : Nat → (p : Pl) → (s : List Stmt) → Option { c : CSs // SdSs p s c }
  | 0, _, _ => none
  | n + 1, p, [] => some ⟨.nil, ss_nil⟩
  | n + 1, p, s :: ss => (match cS m n p s, cSs m n p ss with
    | some ⟨c, h⟩, some ⟨cs, hs⟩ => some ⟨_, ss_cons h hs⟩
    | _, _ => none)
end

/-! ### whole defs -/
/-- a def: its name, its names by slot, how many of them are parameters, its body -/
structure Fn where
  name : Str
  N : List Str
  ps : Nat
  body : CSs
def startE (n : Nat) (ds : List D) : En := ds.map some ++ List.replicate (n - ds.length) none
mutual
/-- no number of the store from n on -/
def below (n : Nat) : D → Prop
  | .tup ds => belows n ds
  | .fix ds => belows n ds
  | .ref i => i < n
  | _ => True
def belows (n : Nat) : List D → Prop
  | [] => True
  | d :: ds => below n d ∧ belows n ds
end
def Ob.below (n : Nat) : Ob → Prop
  | .lst ds => belows n ds
  | .dic ks => belows n (ks.map (·.2))
  | .frd ks => belows n (ks.map (·.2))
  | .dkt ks => belows n (ks.map (·.2))
/-- what a call made is out of reach behind it -/
def Safe (S : Sto) (d : D) (S' : Sto) : Prop := below S.length d ∧ S.length ≤ S'.length ∧ ∀ (i : Nat) o, i < S.length → S'[i]? = some o → S[i]? = some o ∨ o.below S.length
noncomputable def gc (S : Sto) (d : D) (S' : Sto) : Res D := open Classical in if Safe S d S' then .ok d (S'.take S.length) else .ok d S'
/-- a body's run -/
noncomputable def runB (C : Orc) (f : Fn) (ds : List D) (S : Sto) : Res D := (evSs C f.body (startE f.N.length ds) S).bind fun fl S' => match fl with
  | .nx _ => .ok .non S'
  | .rt d => .ok d S'
  | _ => .bad
noncomputable def callF (C : Orc) (f : Fn) (ds : List D) (S : Sto) : Res D := if ds.length = f.ps then (runB C f ds S).bind fun d S' => gc S d S' else .bad
/-- the defs, calls at most k deep -/
noncomputable def orc (T : List Fn) : Nat → Orc
  | 0, _, _, _ => .bad
  | k + 1, f, ds, S => match T[f]? with
    | some fn => callF (orc T k) fn ds S
    | none => .bad

section
variable {K : Fg} {μ μ' : List Addr} {H H' : Hp} {S S' : Sto}
mutual
theorem below_rp : ∀ (d : D) (v : V), Rp K μ H d v → below μ.length d
  | .non, _, _ => trivial
  | .bl _, _, _ => trivial
  | .int _, _, _ => trivial
  | .str _, _, _ => trivial
  | .tup ds, _, ⟨_, vs, _, _, h, _⟩ => belows_rp ds vs h
  | .fix ds, _, ⟨_, vs, _, _, h, _⟩ => belows_rp ds vs h
  | .ref i, _, ⟨_, _, h⟩ => (List.getElem?_eq_some_iff.mp h).1
theorem belows_rp : ∀ (ds : List D) (vs : List V), RpA K μ H ds vs → belows μ.length ds
  | [], _, _ => trivial
  | d :: ds, _, ⟨v, r, _, h1, h2⟩ => ⟨below_rp d v h1, belows_rp ds r h2⟩
end
mutual
theorem rp_below {n : Nat} (hn : n ≤ μ.length) : ∀ (d : D) (v : V), below n d → Rp K μ H d v → Rp K (μ.take n) H d v
  | .non, _, _, h => h
  | .bl _, _, _, h => h
  | .int _, _, _, h => h
  | .str _, _, _, h => h
  | .tup ds, _, b, ⟨a, vs, h1, h2, h3, h4⟩ => ⟨a, vs, h1, h2, rps_below hn ds vs b h3, h4⟩
  | .fix ds, _, b, ⟨a, vs, h1, h2, h3, h4⟩ => ⟨a, vs, h1, h2, rps_below hn ds vs b h3, h4⟩
  | .ref i, _, b, ⟨a, h1, h2⟩ => ⟨a, h1, by
    rw [List.getElem?_take_of_lt b]
    exact h2⟩
theorem rps_below {n : Nat} (hn : n ≤ μ.length) : ∀ (ds : List D) (vs : List V), belows n ds → RpA K μ H ds vs → RpA K (μ.take n) H ds vs
  | [], _, _, h => h
  | d :: ds, _, b, ⟨v, r, h1, h2, h3⟩ => ⟨v, r, h1, rp_below hn d v b.1 h2, rps_below hn ds r b.2 h3⟩
end
theorem RpK.below : ∀ {ks : List (Key × D)} {vs : List (Key × V)}, RpK K μ H ks vs → belows μ.length (ks.map (·.2))
  | [], _, _ => trivial
  | kd :: r, _, ⟨v, t, _, h2, h3⟩ => ⟨below_rp kd.2 v h2, h3.below⟩
theorem RpK.take {n : Nat} (hn : n ≤ μ.length) : ∀ {ks : List (Key × D)} {vs : List (Key × V)}, belows n (ks.map (·.2)) → RpK K μ H ks vs → RpK K (μ.take n) H ks vs
  | [], _, _, h => h
  | kd :: r, _, b, ⟨v, t, h1, h2, h3⟩ => ⟨v, t, h1, rp_below hn kd.2 v b.1 h2, RpK.take hn b.2 h3⟩
theorem TbR.below : ∀ {ks : List (NestedKey × D)} {xs : List TEn}, TbR K μ H ks xs → belows μ.length (ks.map (·.2))
  | [], _, _ => trivial
  | kd :: r, _, ⟨b, u, v, t, _, _, h2, h3⟩ => ⟨below_rp kd.2 v h2, h3.below⟩
theorem TbR.take {n : Nat} (hn : n ≤ μ.length) : ∀ {ks : List (NestedKey × D)} {xs : List TEn}, belows n (ks.map (·.2)) → TbR K μ H ks xs → TbR K (μ.take n) H ks xs
  | [], _, _, h => h
  | kd :: r, _, bb, ⟨b, u, v, t, h1, h0, h2, h3⟩ => ⟨b, u, v, t, h1, h0, rp_below hn kd.2 v bb.1 h2, TbR.take hn bb.2 h3⟩
theorem gc_ok (hs : StOk K μ H S) (e : Ext K μ H μ' H') (hs' : StOk K μ' H' S') {d : D} {v : V} (r : Rp K μ' H' d v) {Q : V → Hp → Prop} (h : Po K μ H (gc S d S') fun d _ μ' H' => ∀ v, Rp K μ' H' d v → Q v H') : Q v H' := by
  unfold gc at h
  split at h
  · rename_i sf
    obtain ⟨b, l, old⟩ := sf
    obtain ⟨l', rfl, n'⟩ := e.pre
    have et : (μ ++ l').take S.length = μ := by rw [← hs.len, List.take_left' rfl]
    refine h μ H' ⟨⟨[], by simp, fun a z => nomatch z⟩, e.alive, e.fr, e.tup, e.fix, e.frd⟩ ⟨by rw [List.length_take, hs.len]; omega, hs.nd, fun i o a e1 e2 => ?_⟩ v ?_
    · have hi : i < S.length := by rw [← hs.len]; exact (List.getElem?_eq_some_iff.mp e2).1
      rw [List.getElem?_take_of_lt hi] at e1
      have bo : o.below S.length := by
        rcases old i o hi e1 with q | q
        · have := hs.ob i o a q e2
          cases o with
          | dic ks =>
            obtain ⟨vs, _, k, _⟩ := this
            rw [← hs.len]
            exact k.below
          | frd ks =>
            obtain ⟨vs, _, k, _⟩ := this
            rw [← hs.len]
            exact k.below
          | dkt ks =>
            obtain ⟨xs, _, _, _, k, _⟩ := this
            rw [← hs.len]
            exact k.below
          | lst ds =>
            obtain ⟨vs, _, k, _⟩ := this
            rw [← hs.len]
            exact belows_rp ds vs k
        · exact q
      have k := hs'.ob i o a e1 (by rw [List.getElem?_append_left (by rw [hs.len]; exact hi)]; exact e2)
      cases o with
      | dic ks =>
        obtain ⟨vs, k1, k2, k3, k4⟩ := k
        refine ⟨vs, k1, ?_, k3, k4⟩
        have := RpK.take (n := S.length) (by rw [List.length_append, hs.len]; omega) bo k2
        rw [et] at this
        exact this
      | frd ks =>
        obtain ⟨vs, k1, k2, k3, k4⟩ := k
        refine ⟨vs, k1, ?_, k3, k4⟩
        have := RpK.take (n := S.length) (by rw [List.length_append, hs.len]; omega) bo k2
        rw [et] at this
        exact this
      | dkt ks =>
        obtain ⟨xs, k1, k2, k3, k4, k5⟩ := k
        refine ⟨xs, k1, k2, k3, ?_, k5⟩
        have := TbR.take (n := S.length) (by rw [List.length_append, hs.len]; omega) bo k4
        rw [et] at this
        exact this
      | lst ds =>
        obtain ⟨vs, k1, k2, k3⟩ := k
        refine ⟨vs, k1, ?_, k3⟩
        have := rps_below (n := S.length) (by rw [List.length_append, hs.len]; omega) ds vs bo k2
        rw [et] at this
        exact this
    · have := rp_below (n := S.length) (by rw [List.length_append, hs.len]; omega) d v b r
      rw [et] at this
      exact this
  · exact h μ' H' e hs' v r
theorem start_ok {N : List Str} {ds : List D} {vs : List V} (r : RpA K μ H ds vs) : EnvOk K μ H (startE N.length ds) (L2.start N vs) := by
  unfold startE L2.start
  have hl := r.length
  refine ⟨by simp only [List.length_append, List.length_map, List.length_replicate]; omega, fun i d q => ?_⟩
  by_cases hi : i < ds.length
  · rw [List.getElem?_append_left (by rw [List.length_map]; exact hi), List.getElem?_map] at q
    cases e : ds[i]? with
    | none => rw [e] at q; cases q
    | some d' =>
      rw [e] at q
      cases q
      obtain ⟨v, e1, r1⟩ := r.get e
      refine ⟨v, ?_, r1⟩
      rw [List.getElem?_append_left (by rw [List.length_map]; omega), List.getElem?_map, e1]
      rfl
  · rw [List.getElem?_append_right (by rw [List.length_map]; omega), List.getElem?_replicate] at q
    split at q <;> cases q
end
/-- what a def keeps, from its body -/
theorem fn_ok {P : Program} {w : World} {K : PySem.W.Frag} {mg : Str → Option Value} {base : Heap} {C : Orc} {p : Pl} {fn : Fn} {i k : Nat} {x qual : Str} {params : Arguments} {body : List Stmt} {scope : Scope} {f : Addr} {fd : FuncData} (F : FunD K x qual params body scope [] [] f fd) (ps : List Str)
    (Sc : FnScope fn.N ps scope) (hps : ps.length = fn.ps) (hN : p.N = fn.N) (hsc : p.sc = scope) (hb : SdSs p body fn.body) (hC : ∀ ds S, C i ds S = .bad → False → False)
    (blt : ∀ x, x ∈ p.B → mg x = none)
    (glb : ∀ x g, (x, g) ∈ p.G → GvOk (Fg.mk K P w) mg x g)
    (fns : ∀ (j : Nat) y, p.T[j]? = some y → ∃ g gd ps, mg y = some (.ref g) ∧ FnG P w K mg base CX0 k g gd ps (spC (Fg.mk K P w) C j) ∧ PySem.W.keepIn K (.ref g) = true ∧ Binds K gd ps [])
    (hk : 190 ≤ k ∧ k ≤ 300) : FnG P w K mg base CX0 (k + 1) f fd ps (fun vs H Q _ => ∃ μ ds S, StOk (Fg.mk K P w) μ H S ∧ RpA (Fg.mk K P w) μ H ds vs ∧ Po (Fg.mk K P w) μ H (callF C fn ds S) fun d _ μ' H' => ∀ v, Rp (Fg.mk K P w) μ' H' d v → Q v H') := by
  refine F.okG Sc (fun vs H Q E h => ?_) (fun cdv A outer s H vs Q E hr gu h => ?_)
  · obtain ⟨μ, ds, S, _, r, h⟩ := h
    unfold callF at h
    split at h
    · rename_i hl
      rw [← r.length, hl, hps]
    · exact h.elim
  · obtain ⟨μ, ds, S, hs, r, h⟩ := h
    unfold callF at h
    split at h
    · rename_i hl
      generalize hX : cxOf CX0 P w K mg base fn.N qual scope f cdv A outer s H E = X
      have gd : Good X.nox p C := by
        subst hX
        refine ⟨rfl, gu, Sc.nd, ?_, PassesOwn.never, hN.symm, hsc.symm, blt, glb, fun j y hy => ?_⟩
        · have := hr.units
          have h2 := hr.un
          show (A.deeper _).units + 3100 < cLine
          omega
        · obtain ⟨g, gd, ps, h1, h2, h3, h4⟩ := fns j y hy
          exact ⟨g, gd, ps, k, h1, h2, hr, h3, h4⟩
      have hfn : X.nox.fn = (fun _ => true) := by subst hX; rfl
      have hK : fgX X.nox = Fg.mk K P w := by subst hX; rfl
      refine ⟨_, (hb X.nox C gd hfn).nox, ?_⟩
      rw [hK]
      refine ⟨μ, startE fn.N.length ds, S, start_ok r, hs, ?_⟩
      have h : Po (Fg.mk K P w) μ H ((runB C fn ds S).bind fun d S' => gc S d S') _ := h
      unfold runB at h
      generalize evSs C fn.body (startE fn.N.length ds) S = rr at h
      cases rr with
      | ok fl S' =>
        intro μ' H' e s'
        cases fl with
        | nx ρ => exact fun σ he => gc_ok hs e s' (d := .non) (v := .non) rfl h
        | rt d => exact fun v rv => gc_ok hs e s' rv h
        | bk ρ => exact (h : False).elim
        | ct ρ => exact (h : False).elim
      | exc c fs S' => exact h.elim
      | bad => exact h.elim
    · exact h.elim
end PQ

/-! A whole program. -/
namespace PQ
open PySem PySem.Spec PyProof.Rows L2
/-- a def of the program as it stands behind the top -/
structure DefOk (K : PySem.W.Frag) (mg : Str → Option Value) (T B : List Str) (G : List (Str × Gv)) (fn : Fn) : Prop where
  ex : ∃ (f : Addr) (fd : FuncData) (qual : Str) (ps : List Str) (params : Arguments) (body : List Stmt) (scope : Scope), mg fn.name = some (.ref f) ∧ FunD K fn.name qual params body scope [] [] f fd ∧ FnScope fn.N ps scope ∧ ps.length = fn.ps ∧
    SdSs ⟨T, B, fn.N, scope, G⟩ body fn.body ∧ ∀ (s : Shared) (us : List Value), us.length = ps.length → BindsTo s fd ⟨us, []⟩ (ps.zip us)
theorem binds_of {K : PySem.W.Frag} {fd : FuncData} {ps : List Str} (h : ∀ (s : Shared) (us : List Value), us.length = ps.length → BindsTo s fd ⟨us, []⟩ (ps.zip us)) : Binds K fd ps [] := fun s us _ hl => by
  rw [List.append_nil] at hl ⊢
  exact h s us hl
theorem all_ok {P : Program} {w : World} {K : PySem.W.Frag} {mg : Str → Option Value} {base : Heap} {T : List Fn} {names B : List Str} {Gs : List (Str × Gv)} (hn : T.map (·.name) = names) (hB : ∀ x ∈ B, mg x = none) (hG : ∀ x g, (x, g) ∈ Gs → GvOk (Fg.mk K P w) mg x g) (hT : ∀ fn ∈ T, DefOk K mg names B Gs fn) :
    ∀ (k : Nat), k + 190 ≤ 300 → ∀ (i : Nat) fn, T[i]? = some fn → ∃ f fd ps, mg fn.name = some (.ref f) ∧ FnG P w K mg base CX0 (k + 190) f fd ps (spC (Fg.mk K P w) (orc T k) i) ∧ PySem.W.keepIn K (.ref f) = true ∧ Binds K fd ps []
  | 0, _, i, fn, h => by
    obtain ⟨f, fd, qual, ps, params, body, scope, h1, h2, h3, h4, h5, h6⟩ := (hT fn (List.mem_of_getElem? h)).ex
    refine ⟨f, fd, ps, h1, ⟨fun vs H Q E z => ?_, fun A outer s H args us vs Q E hr e0 hb r z => ?_⟩, h2.kp, binds_of h6⟩
    · obtain ⟨μ, ds, S, _, _, z⟩ := z
      exact z.elim
    · obtain ⟨μ, ds, S, _, _, z⟩ := z
      exact z.elim
  | k + 1, hk, i, fn, h => by
    obtain ⟨f, fd, qual, ps, params, body, scope, h1, h2, h3, h4, h5, h6⟩ := (hT fn (List.mem_of_getElem? h)).ex
    exact ⟨f, fd, ps, h1, step k hk i fn h f fd qual ps params body scope h2 h3 h4 h5 (all_ok hn hB hG hT k (by omega)), h2.kp, binds_of h6⟩
where
  step (k : Nat) (hk : k + 1 + 190 ≤ 300) (i : Nat) (fn : Fn) (h : T[i]? = some fn) (f : Addr) (fd : FuncData) (qual : Str) (ps : List Str) (params : Arguments) (body : List Stmt) (scope : Scope) (h2 : FunD K fn.name qual params body scope [] [] f fd) (h3 : FnScope fn.N ps scope) (h4 : ps.length = fn.ps)
      (h5 : SdSs ⟨names, B, fn.N, scope, Gs⟩ body fn.body) (ih : ∀ (i : Nat) fn, T[i]? = some fn → ∃ f fd ps, mg fn.name = some (.ref f) ∧ FnG P w K mg base CX0 (k + 190) f fd ps (spC (Fg.mk K P w) (orc T k) i) ∧ PySem.W.keepIn K (.ref f) = true ∧ Binds K fd ps []) : FnG P w K mg base CX0 (k + 1 + 190) f fd ps (spC (Fg.mk K P w) (orc T (k + 1)) i) := by
    have F := fn_ok (P := P) (w := w) (mg := mg) (base := base) (C := orc T k) (p := ⟨names, B, fn.N, scope, Gs⟩) (fn := fn) (i := i) (k := k + 190) h2 ps h3 h4 rfl rfl h5 (fun _ _ _ z => z) hB hG (fun j y hy => by
      have hy : names[j]? = some y := hy
      rw [← hn, List.getElem?_map] at hy
      cases e : T[j]? with
      | none => rw [e] at hy; cases hy
      | some gn =>
        rw [e] at hy
        cases hy
        obtain ⟨g, gd, qs, k1, k2, k3, k4⟩ := ih j gn e
        exact ⟨g, gd, qs, k1, k2, k3, k4⟩) (by omega)
    refine F.imp fun vs H Q E z => ?_
    obtain ⟨μ, ds, S, s1, s2, s3⟩ := z
    refine ⟨μ, ds, S, s1, s2, ?_⟩
    have e : orc T (k + 1) i ds S = callF (orc T k) fn ds S := by
      show (match T[i]? with
        | some fn => callF (orc T k) fn ds S
        | none => Res.bad) = _
      rw [h]
    rw [e] at s3
    exact s3
/-- the law's def is called from outside: no repr is under way there -/
theorem law_callG {P : Program} {w : World} {K : PySem.W.Frag} {mg mb : Str → Option Value} {k : Nat} {fa a : Addr} {fd : FuncData} {x : Str} {sp : Sp} {s₁ : Shared} {vs : List Value} {ns : List Int} (KX : K.In s₁.heap) (gN : s₁.heap.Ns mainGlobals mg) (bN : s₁.heap.Ns builtinsNs mb) (bB : ∀ x : Str, x ≠ "__name__" → mb x = bootBuiltins x) (lim : s₁.heap.NoLimit) (hg : s₁.gens = #[])
    (ha : s₁.heap.get? a = some { cls := .type "list", data := .seq vs.toArray }) (hi : IntsAre vs ns) (hl : ns.length ≤ sizeLine) (hr : Room k callerA) (F : ∀ bh : Heap, K.In bh → bh.Ns mainGlobals mg → FnG P w K mg bh CX0 k fa fd [x] sp) (hb : ∀ (s : Shared) (u : Value), BindsTo s fd ⟨[u], []⟩ [(x, u)])
    (hsp : ∀ H : Hp, Only H → SqL K H a (ns.map V.int) → sp [.ref a] H (fun v _ => v = .bl true) fun _ _ _ => False) : codeAny (model P w) callerA (.call (.ref fa) ⟨[.ref a], []⟩) (fun r s' => r = .ok (.ret (.bool true)) ∧ OldK s₁.heap s'.heap ∧ s'.os = s₁.os ∧ AllBare s'.gens) s₁ := by
  have rv := vals_ints hi
  have core : ∀ H : Hp, Only H → SqL K H a (ns.map V.int) → HOk P w H s₁.heap → (∀ b, H b ≠ none → b = a) → (H a ≠ none → K.lookup a = none) → codeAny (model P w) callerA (.call (.ref fa) ⟨[.ref a], []⟩) (fun r s' => r = .ok (.ret (.bool true)) ∧ OldK s₁.heap s'.heap ∧ s'.os = s₁.os ∧ AllBare s'.gens) s₁ := by
    intro H hO hS hok hA hK
    have nd : ∀ {b : Addr} {o : Obj} {es : Array DictEntry} {ep : Nat}, s₁.heap.get? b = some o → o.data = .dict es ep → H b = none := fun {b o es ep} e d => by
      by_cases q : H b = none
      · exact q
      · obtain rfl := hA b q
        rw [ha] at e
        cases e
        exact absurd (show Data.seq vs.toArray _ = Data.dict es ep from d) (fun z => by cases z)
    have ns2 : ∀ {b : Addr} {m : Str → Option Value}, s₁.heap.Ns b m → (hidT s₁.heap H).Ns b m := fun {b m} ⟨o, es, ep, e, d, r⟩ => ⟨o, es, ep, hidT_get e (nd e d), d, r⟩
    have kin : K.In (hidT s₁.heap H) := fun b o e => hidT_get (KX b o e) (by
      by_cases q : H b = none
      · exact q
      · obtain rfl := hA b q
        rw [hK q] at e
        cases e)
    obtain ⟨mc, l1, l2⟩ := lim
    have e0 : Env0 P w K mg (hidT s₁.heap H) callerA [] s₁ H := ⟨rfl, ⟨kin, ns2 gN, ⟨mb, ns2 bN, bB⟩, ⟨mc, ns2 l1, l2⟩⟩, fun b o e => of_hidT e, Nat.le_of_eq (hidT_size _ _), trivial, fun b hb => absurd (show b ∈ ([] : List Addr) from hb) (by simp), hok, .of_eq hg⟩
    refine codeAny_mono ((F _ kin (ns2 gN)).go callerA [] s₁ H ⟨[.ref a], []⟩ [.ref a] [.ref a] _ _ ⟨hr, rfl⟩ e0 (hb s₁ (.ref a)) (.cons rfl .nil) (hsp H hO hS)) fun r s' h => ?_
    match r, h with
    | .error _, h => exact False.elim h
    | .ok .next, h => exact False.elim h
    | .ok .brk, h => exact False.elim h
    | .ok .cont, h => exact False.elim h
    | .ok (.ret u), h =>
      obtain ⟨v, H', os, bare, un, hok', r', q⟩ := h
      obtain rfl : v = .bl true := q
      obtain rfl : u = Value.bool true := r'
      refine ⟨rfl, OldK.of_keep fun b o e => ?_, os, bare⟩
      rcases hO b with z | ⟨ob, xs, z⟩
      · exact un.keep b o e z (fun z => absurd (show b ∈ ([] : List Addr) from z) (by simp)) (by simp)
      · obtain ⟨e1, _⟩ := hok b _ z
        obtain ⟨e2, _⟩ := hok' b _ (un.frzs b ob _ z)
        rw [e] at e1
        cases e1
        exact e2
  cases hk : K.lookup a with
  | some o =>
    have e := KX a o hk
    rw [ha] at e
    cases e
    exact core (fun _ => none) (fun _ => .inl rfl) (.inr ⟨_, vs.toArray, _, hk, rfl, rfl, rfl, by rw [List.size_toArray, hi.length]; exact hl, by simpa using rv⟩) (fun b u z => nomatch z) (fun b z => absurd rfl z) fun z => absurd rfl z
  | none =>
    have he : ∀ b, (if b = a then some (HO.frz { cls := .type "list", data := .seq vs.toArray } (.lst (ns.map V.int))) else none) ≠ none → b = a := fun b z => by
      by_cases hb : b = a
      · exact hb
      · exact absurd (if_neg hb) z
    refine core (fun b => if b = a then some (HO.frz { cls := .type "list", data := .seq vs.toArray } (.lst (ns.map V.int))) else none) (fun b => ?_) (.inl (.inr ⟨{ cls := .type "list", data := .seq vs.toArray }, if_pos rfl⟩)) (fun b u z => ?_) he fun _ => hk
    · by_cases hb : b = a
      · exact .inr ⟨_, _, if_pos hb⟩
      · exact .inl (if_neg hb)
    · obtain rfl := he b (fun q => by rw [show (if b = a then some (HO.frz { cls := .type "list", data := .seq vs.toArray } (.lst (ns.map V.int))) else none) = some u from z] at q; cases q)
      cases (if_pos rfl).symm.trans z
      exact ⟨ha, by rw [List.length_map]; exact hl, vs, _, rv, ha⟩
theorem walk_G {l : PySem.W.OpenLaw} {n k : Nat} {q : Program} {loose : List Str} {XP : (Str → Option Value) → Heap → Prop} {YP : World → Heap → Prop} {d : DefRec} {x : Str} (hn : l.most = some n) (hn2 : n ≤ sizeLine) (hdf : d.params.defaults = []) (hr : Room k callerA)
    (F : ∀ (w : World) (mg : Str → Option Value) (fa : Addr) (h : Heap), YP w h → h.Ns mainGlobals mg → mg d.name = some (.ref fa) → ∃ (K : PySem.W.Frag) (fd : FuncData) (sp : Sp), K.In h ∧ (∀ (s : Shared) (u : Value), BindsTo s fd ⟨[u], []⟩ [(x, u)]) ∧ (∀ (H : Hp) (a : Addr) (ns : List Int), ns.length ≤ n → Only H → SqL K H a (ns.map V.int) → sp [.ref a] H (fun v _ => v = .bl true) fun _ _ _ => False) ∧ ∀ bh : Heap, K.In bh → bh.Ns mainGlobals mg → FnG l.prog w K mg bh CX0 k fa fd [x] sp) :
    PySem.W.WalkO q loose XP YP l.row.toRowW d [] (fun f vs => PySem.call f vs) := by
  refine Att.attach_call hn hdf fun w s₀ s₁ mg mb fa o pm cd doc a vs ns G Y _ _ _ hm hobj hi hlen hg => ?_
  obtain ⟨K, fd, sp, KX, hb, hsp, hF⟩ := F w mg fa _ Y G.T.g hm
  exact law_callG KX G.T.g G.T.b G.T.builtins G.T.nolimit hg hobj hi (Nat.le_trans hlen hn2) hr hF hb fun H hO hS => hsp H a ns hlen hO hS
/-- a def, from the head's facts and the compiler's word -/
theorem def_ok {K : PySem.W.Frag} {h : Heap} {mg : Str → Option Value} {fn : List He.DefD} {fa : List He.Fa} {names B N ps : List Str} {Gs : List (Str × Gv)} {x : Str} {n : Nat} {body : CSs} (X : K.In h) (G : h.Ns mainGlobals mg) (c : He.SaysD fa fn K) (i : Nat) {st : Stmt} (hd : fn[i]? = some ⟨(x, none), x, x, defArgs st, defBody st, defScope st, [], []⟩) (j : Nat) (hj : fa[j]? = some (.glo x))
    (hc : (cSs 60 60 ⟨names, B, N, defScope st, Gs⟩ (defBody st)).map (·.val) = some body) (hs : FnScope N ps (defScope st)) (hp : ps.length = n)
    (hb : ∀ (kV doc pm : Value) (an : Option Addr) (cdv ct : Value) (us : List Value), us.length = ps.length → bindArgs (PySem.W.fnOf x x (defArgs st) (defBody st) (defScope st) .none kV doc pm an cdv ct) ⟨us, []⟩ = pure (ps.zip us)) : DefOk K mg names B Gs ⟨x, N, n, body⟩ := by
  obtain ⟨fd, F⟩ := c.def_ i (d := ⟨(x, none), x, x, defArgs st, defBody st, defScope st, [], []⟩) hd
  have hm := He.glo_ok X G (c.fact j (f := .glo x) hj)
  cases e : cSs 60 60 ⟨names, B, N, defScope st, Gs⟩ (defBody st) with
  | none => rw [e] at hc; cases hc
  | some r =>
    rw [e] at hc
    have hr : r.val = body := Option.some.inj hc
    exact ⟨_, fd, x, ps, _, _, _, hm, F, hs, hp, by
      rw [← hr]
      exact r.property, fun s us hl => FunD.bindsA F hb s us hl⟩
/-- the law's def: what the language says of it, for every script -/
theorem law_end {l : PySem.W.OpenLaw} {w : World} {K : PySem.W.Frag} {h : Heap} {mg : Str → Option Value} {T : List Fn} {names B : List Str} {Gs : List (Str × Gv)} {fa : Addr} {lawFn : Fn} {i k n : Nat} (KX : K.In h) (hn : T.map (·.name) = names) (hB : ∀ x ∈ B, mg x = none) (hG : ∀ x g, (x, g) ∈ Gs → GvOk (Fg.mk K l.prog w) mg x g) (hT : ∀ fn ∈ T, DefOk K mg names B Gs fn)
    (hl : T[i]? = some lawFn) (hx : lawFn.N.take 1 = ([("script" : Str)] : List Str)) (hp : lawFn.ps = 1) (hmg : mg lawFn.name = some (.ref fa)) (hk : k + 1 + 190 ≤ 300) (hns : n ≤ sizeLine)
    (true_ : ∀ ns : List Int, ns.length ≤ n → ∃ S, orc T (k + 1) i [.fix (ns.map .int)] [] = .ok (.bl true) S) :
    ∃ (K : PySem.W.Frag) (fd : FuncData) (sp : Sp), K.In h ∧ (∀ (s : Shared) (u : Value), BindsTo s fd ⟨[u], []⟩ [(("script" : Str), u)]) ∧
        (∀ (H : Hp) (a : Addr) (ns : List Int), ns.length ≤ n → Only H → SqL K H a (ns.map V.int) → sp [.ref a] H (fun v _ => v = .bl true) fun _ _ _ => False) ∧
        ∀ base : Heap, K.In base → base.Ns mainGlobals mg → FnG l.prog w K mg base CX0 (k + 1 + 190) fa fd ([("script" : Str)] : List Str) sp := by
  obtain ⟨f, fd, qual, ps, params, body, scope, h1, h2, h3, h4, h5, h6⟩ := (hT lawFn (List.mem_of_getElem? hl)).ex
  have ef : fa = f := by
    rw [hmg] at h1
    cases h1
    rfl
  subst ef
  have eps : ps = ([("script" : Str)] : List Str) := by
    have := h3.pre
    rw [h4, hp, hx] at this
    exact this.symm
  subst eps
  refine ⟨K, fd, spC (Fg.mk K l.prog w) (orc T (k + 1)) i, KX, fun s u => h6 s [u] rfl, fun H a ns hl' hO hS => ?_, fun base _ _ => all_ok.step hn hB hG 0 k hk i lawFn hl fa fd qual _ params body scope h2 h3 h4 h5 (all_ok hn hB hG hT k (by omega))⟩
  have hf : Fix (Fg.mk K l.prog w) H a (ns.map V.int) := by
    rcases hS with (q | ⟨o, q⟩) | q
    · rcases hO a with z | ⟨o, xs, z⟩
      · rw [z] at q; cases q
      · rw [z] at q; cases q
    · exact .inl ⟨o, q⟩
    · exact .inr q
  have hr : ∀ ns : List Int, RpA (Fg.mk K l.prog w) [] H (ns.map D.int) (ns.map V.int) := fun ns => by
    induction ns with
    | nil => exact rfl
    | cons x xs ih => exact .cons rfl ih
  obtain ⟨S, hS'⟩ := true_ ns hl'
  refine ⟨[], [.fix (ns.map .int)], [], ⟨rfl, List.nodup_nil, fun i o a e _ => by simp at e⟩, .cons ⟨a, _, rfl, hf, hr ns, by rw [List.length_map]; omega⟩ .nil, ?_⟩
  rw [hS']
  exact fun μ' H' _ _ v rv => rv
end PQ

/-! What a run says, by what is asked of its end. -/
namespace PQ
open PySem PySem.Spec PyProof.Rows L2
/-- it ends well, and then .. -/
def W {α : Type} (r : Res α) (Q : α → Sto → Prop) : Prop := ∃ a S, r = .ok a S ∧ Q a S
section
variable {α β : Type} {Q : α → Sto → Prop} {a : α} {S : Sto}
@[simp] theorem W_ok : W (.ok a S) Q = Q a S := propext ⟨fun ⟨_, _, e, h⟩ => by cases e; exact h, fun h => ⟨_, _, rfl, h⟩⟩
@[simp] theorem W_bad : W (.bad : Res α) Q = False := propext ⟨fun ⟨_, _, e, _⟩ => (nomatch e), False.elim⟩
@[simp] theorem W_exc {c : Str} {fs : List (Str × D)} : W (.exc c fs S : Res α) Q = False := propext ⟨fun ⟨_, _, e, _⟩ => (nomatch e), False.elim⟩
@[simp] theorem W_bind {r : Res β} {f : β → Sto → Res α} : W (r.bind f) Q = W r fun b S => W (f b S) Q := by
  cases r with
  | ok b S => simp [Res.bind]
  | exc c fs S => simp [Res.bind]
  | bad => simp [Res.bind]
@[simp] theorem W_ask {p : Prop} {r : Res α} : W (ask p r) Q = (p ∧ W r Q) := by
  unfold ask
  split <;> rename_i h
  · exact propext ⟨fun x => ⟨h, x⟩, fun x => x.2⟩
  · rw [W_bad]
    exact propext ⟨False.elim, fun x => h x.1⟩
@[simp] theorem may_some {f : β → Res α} {b : β} : may (some b) f = f b := rfl
@[simp] theorem may_none {f : β → Res α} : may none f = .bad := rfl
theorem W_mono {Q' : α → Sto → Prop} {r : Res α} (h : W r Q) (k : ∀ a S, Q a S → Q' a S) : W r Q' := by
  obtain ⟨a, S, e, h⟩ := h
  exact ⟨a, S, e, k _ _ h⟩
theorem W_ite {c : Prop} [Decidable c] {r s : Res α} (h1 : c → W r Q) (h2 : ¬c → W s Q) : W (if c then r else s) Q := by
  split
  · exact h1 ‹_›
  · exact h2 ‹_›
end
/-- a walk: each turn goes on -/
theorem loopS_w {C : Sto → Prop} {f : D → En → Sto → Res Fl} {Q : Fl → Sto → Prop} (I : List D → En → Sto → Prop)
    (h : ∀ d ds ρ S, I (d :: ds) ρ S → C S ∧ W (f d ρ S) fun fl S' => (∃ ρ', (fl = .nx ρ' ∨ fl = .ct ρ') ∧ I ds ρ' S'))
    (h0 : ∀ ρ S, I [] ρ S → C S ∧ Q (.nx ρ) S) : ∀ ds ρ S, I ds ρ S → W (loopS C f ds ρ S) Q
  | [], ρ, S, i => by
    rw [loopS, W_ask, W_ok]
    exact h0 ρ S i
  | d :: ds, ρ, S, i => by
    rw [loopS, W_ask, W_bind]
    obtain ⟨k1, k2⟩ := h d ds ρ S i
    refine ⟨k1, W_mono k2 fun fl S' ⟨ρ', e, k⟩ => ?_⟩
    rcases e with e | e <;> subst e <;> exact loopS_w I h h0 ds ρ' S' k
/-- a comprehension without a test: each item makes one -/
theorem loopQ_w {C : Sto → Prop} {f : D → Sto → Res (Option D)} {Q : List D → Sto → Prop} (I : List D → List D → Sto → Prop)
    (h : ∀ d ds r S, I (d :: ds) r S → C S ∧ W (f d S) fun o S' => I ds (r ++ o.toList) S')
    (h0 : ∀ r S, I [] r S → C S ∧ Q r S) (ds : List D) (S : Sto) (i : I ds [] S) : W (loopQ C f ds S) Q := by
  suffices ∀ (ds r : List D) S, I ds r S → W (loopQ C f ds S) fun x S => Q (r ++ x) S by
    have := this ds [] S i
    simpa using this
  intro ds
  induction ds with
  | nil =>
    intro r S i
    rw [loopQ, W_ask, W_ok, List.append_nil]
    exact h0 r S i
  | cons d ds ih =>
    intro r S i
    rw [loopQ, W_ask, W_bind]
    obtain ⟨k1, k2⟩ := h d ds r S i
    refine ⟨k1, W_mono k2 fun o S' k => ?_⟩
    rw [W_bind]
    refine W_mono (ih _ _ k) fun x S'' q => ?_
    rw [W_ok]
    cases o with
    | none => simpa using q
    | some o => simpa using q
/-- what a def hands back -/
theorem callF_w {C : Orc} {fn : Fn} {ds : List D} {S : Sto} {Q : D → Sto → Prop} (hl : ds.length = fn.ps) (h : W (runB C fn ds S) fun d S' => W (gc S d S') Q) : W (callF C fn ds S) Q := by
  unfold callF
  rw [if_pos hl, W_bind]
  exact h
@[simp] theorem gc_self {S : Sto} {d : D} : gc S d S = .ok d S := by
  unfold gc
  split <;> simp
theorem gc_same {S S' : Sto} {d : D} (h : S'.length = S.length) : gc S d S' = .ok d S' := by
  unfold gc
  split
  · rw [← h, List.take_length]
  · rfl
/-- what stands anew behind the old store, and is not handed back, is forgotten -/
theorem gc_app {S g : Sto} {d : D} (h : below S.length d) : gc S d (S ++ g) = .ok d S := by
  unfold gc
  rw [if_pos]
  · simp
  · refine ⟨h, by simp, fun i o hi e => .inl ?_⟩
    rw [← e, List.getElem?_append_left hi]
end PQ

/-! One step of a run, by its syntax. -/
namespace PQ
open PySem PySem.Spec PyProof.Rows L2
variable {C : Orc} {ρ : En} {S : Sto}
theorem w_var {i : Nat} {d : D} {Q : D → Sto → Prop} (k : ρ[i]? = some (some d))(h : Q d S) : W (evE C (.var i) ρ S) Q := by
  simpa [evE, k] using h
theorem w_lit {d : D} {Q : D → Sto → Prop} (h : Q d S) : W (evE C (.lit d) ρ S) Q := by
  simpa [evE] using h
theorem w_tup {es : CEs} {Q : D → Sto → Prop} (h : W (evEs C es ρ S) fun ds S1 => ds.length ≤ sizeLine ∧ Q (.tup ds) S1) : W (evE C (.tup es) ρ S) Q := by
  simpa [evE] using h
theorem w_alloc {q : CQ} {Q : D → Sto → Prop} (h : W (evQ C q ρ S) fun ds S1 => Q (.ref S1.length) (S1 ++ [.lst ds])) : W (evE C (.alloc q) ρ S) Q := by
  simpa [evE] using h
theorem w_bin {o : Bop} {a b : CE} {Q : D → Sto → Prop} (h : W (evE C a ρ S) fun x S1 => W (evE C b ρ S1) fun y S2 => W (binD o x y S2) Q) : W (evE C (.bin o a b) ρ S) Q := by
  simpa [evE] using h
theorem w_cmp {o : Cop} {a b : CE} {Q : D → Sto → Prop} (h : W (evE C a ρ S) fun x S1 => W (evE C b ρ S1) fun y S2 => W (cmpD o x y S2) Q) : W (evE C (.cmp o a b) ρ S) Q := by
  simpa [evE] using h
noncomputable def chnK (C : Orc) (p : Cop) (c : CE) (ρ : En) (y : D) (z : D) (S3 : Sto) : Res D := match z with
  | .bl true => (evE C c ρ S3).bind fun w S4 => cmpD p y w S4
  | .bl false => .ok (.bl false) S3
  | _ => .bad
theorem w_chn {o p : Cop} {a b c : CE} {Q : D → Sto → Prop} (h : W (evE C a ρ S) fun x S1 => W (evE C b ρ S1) fun y S2 => W (cmpD o x y S2) fun z S3 => W (chnK C p c ρ y z S3) Q) : W (evE C (.chn o p a b c) ρ S) Q := by
  have e : evE C (.chn o p a b c) ρ S = (evE C a ρ S).bind fun x S1 => (evE C b ρ S1).bind fun y S2 => (cmpD o x y S2).bind fun z S3 => chnK C p c ρ y z S3 := rfl
  rw [e]
  simpa only [W_bind] using h
theorem w_chnB {p : Cop} {c : CE} {y : D} {k : Bool} {Q : D → Sto → Prop} (h1 : k = true → W (evE C c ρ S) fun w S4 => W (cmpD p y w S4) Q) (h2 : k = false → Q (.bl false) S) : W (chnK C p c ρ y (.bl k) S) Q := by
  cases k
  · exact (W_ok (Q := Q)).symm ▸ h2 rfl
  · show W (Res.bind _ _) _
    rw [W_bind]
    exact h1 rfl
theorem w_isN {a : CE} {Q : D → Sto → Prop} (h : W (evE C a ρ S) fun x S1 => Q (.bl (isNon x)) S1) : W (evE C (.isN a) ρ S) Q := by
  simpa [evE] using h
theorem w_notN {a : CE} {Q : D → Sto → Prop} (h : W (evE C a ρ S) fun x S1 => Q (.bl (!isNon x)) S1) : W (evE C (.notN a) ρ S) Q := by
  simpa [evE] using h
theorem w_inr {a : CE} {r : CR} {Q : D → Sto → Prop} (h : W (evE C a ρ S) fun x S1 => W (evR C r ρ S1) fun v S2 => W (may (inD x v S2) fun b => .ok (.bl b) S2) Q) : W (evE C (.inr a r) ρ S) Q := by
  simpa [evE] using h
theorem w_notInr {a : CE} {r : CR} {Q : D → Sto → Prop} (h : W (evE C a ρ S) fun x S1 => W (evR C r ρ S1) fun v S2 => W (may (inD x v S2) fun b => .ok (.bl (!b)) S2) Q) : W (evE C (.notInr a r) ρ S) Q := by
  simpa [evE] using h
theorem w_and {a b : CE} {Q : D → Sto → Prop} (h : W (evE C a ρ S) fun x S1 => W (may (tru S1 x) fun k => if k = true then evE C b ρ S1 else .ok x S1) Q) : W (evE C (.and a b) ρ S) Q := by
  simpa [evE] using h
theorem w_or {a b : CE} {Q : D → Sto → Prop} (h : W (evE C a ρ S) fun x S1 => W (may (tru S1 x) fun k => if k = true then .ok x S1 else evE C b ρ S1) Q) : W (evE C (.or a b) ρ S) Q := by
  simpa [evE] using h
theorem w_not {a : CE} {Q : D → Sto → Prop} (h : W (evE C a ρ S) fun x S1 => W (may (tru S1 x) fun k => .ok (.bl (!k)) S1) Q) : W (evE C (.not a) ρ S) Q := by
  simpa [evE] using h
theorem w_ife {t : CT} {a b : CE} {Q : D → Sto → Prop} (h : W (evT C t ρ S) fun k S1 => W (if k = true then evE C a ρ S1 else evE C b ρ S1) Q) : W (evE C (.ife t a b) ρ S) Q := by
  simpa [evE] using h
theorem w_idx {a b : CE} {Q : D → Sto → Prop} (h : W (evE C a ρ S) fun x S1 => W (evE C b ρ S1) fun y S2 => W (idxD x y S2) Q) : W (evE C (.idx a b) ρ S) Q := by
  simpa [evE] using h
theorem w_slc {a : CE} {lo hi : CO} {Q : D → Sto → Prop} (h : W (evE C a ρ S) fun x S1 => W (evO C lo ρ S1) fun l S2 => W (evO C hi ρ S2) fun u S3 => W (slcD x l u S3) Q) : W (evE C (.slc a lo hi) ρ S) Q := by
  simpa [evE] using h
theorem w_call {f : Nat} {es : CEs} {Q : D → Sto → Prop} (h : W (evEs C es ρ S) fun ds S1 => W (C f ds S1) Q) : W (evE C (.call f es) ρ S) Q := by
  simpa [evE] using h
theorem w_fn1 {f : F1} {a : CE} {Q : D → Sto → Prop} (h : W (evE C a ρ S) fun x S1 => W (fn1D f x S1) Q) : W (evE C (.fn1 f a) ρ S) Q := by
  simpa [evE] using h
theorem w_fn2 {f : F2} {a b : CE} {Q : D → Sto → Prop} (h : W (evE C a ρ S) fun x S1 => W (evE C b ρ S1) fun y S2 => W (fn2D f x y S2) Q) : W (evE C (.fn2 f a b) ρ S) Q := by
  simpa [evE] using h
theorem w_agg {f : Ag} {r : CR} {Q : D → Sto → Prop} (h : W (evR C r ρ S) fun v S1 => W (aggD f v S1) Q) : W (evE C (.agg f r) ρ S) Q := by
  simpa [evE] using h
theorem w_isi {a : CE} {t : Ty} {Q : D → Sto → Prop} (h : W (evE C a ρ S) fun x S1 => W (may (tyB t S1 x) fun b => .ok (.bl b) S1) Q) : W (evE C (.isi a t) ρ S) Q := by
  simpa [evE] using h
theorem w_app {l x : CE} {Q : D → Sto → Prop} (h : W (evE C l ρ S) fun o S1 => W (withL S1 o fun _ _ => (evE C x ρ S1).bind fun v S2 => appD o v S2) Q) : W (evE C (.app l x) ρ S) Q := by
  simpa [evE] using h
theorem w_ext {l : CE} {r : CR} {Q : D → Sto → Prop} (h : W (evE C l ρ S) fun o S1 => W (withL S1 o fun _ _ => (evR C r ρ S1).bind fun v S2 => extD o v S2) Q) : W (evE C (.ext l r) ρ S) Q := by
  simpa [evE] using h
theorem w_pop {l : CE} {Q : D → Sto → Prop} (h : W (evE C l ρ S) fun o S1 => W (popD o S1) Q) : W (evE C (.pop l) ρ S) Q := by
  simpa [evE] using h
theorem w_popAt {l i : CE} {Q : D → Sto → Prop} (h : W (evE C l ρ S) fun o S1 => W (withL S1 o fun _ _ => (evE C i ρ S1).bind fun v S2 => popAtD o v S2) Q) : W (evE C (.popAt l i) ρ S) Q := by
  simpa [evE] using h
theorem w_join {s : Str} {r : CR} {Q : D → Sto → Prop} (h : W (evR C r ρ S) fun v S1 => W (may (sqOf S1 v) fun ds => may (strsOf ds) fun ys => ask ((ys.map (·.length)).sum + ys.length * s.length ≤ 16777216) (.ok (.str (Txt.join s ys)) S1)) Q) : W (evE C (.join s r) ρ S) Q := by
  simpa [evE] using h
noncomputable def tixK (C : Orc) (b : CE) (ρ : En) (x : D) (S1 : Sto) : Res D := match x with
  | .tup ds => (evE C b ρ S1).bind fun y S2 => tixD ds y S2
  | .ref j => withL S1 (.ref j) fun _ _ => (evE C b ρ S1).bind fun y S2 => may (ixD (.ref j) y S2) fun n => .ok (.int (n : Nat)) S2
  | _ => .bad
theorem w_ins {l i x : CE} {Q : D → Sto → Prop} (h : W (evE C l ρ S) fun o S1 => W (withL S1 o fun _ _ => (evE C i ρ S1).bind fun y S2 => (evE C x ρ S2).bind fun v S3 => insD o y v S3) Q) : W (evE C (.ins l i x) ρ S) Q := by
  simpa [evE] using h
theorem w_tix {a b : CE} {Q : D → Sto → Prop} (h : W (evE C a ρ S) fun x S1 => W (tixK C b ρ x S1) Q) : W (evE C (.tix a b) ρ S) Q := by
  have e : evE C (.tix a b) ρ S = (evE C a ρ S).bind fun x S1 => tixK C b ρ x S1 := by
    rw [evE]
    rfl
  rw [e, W_bind]
  exact h
theorem v_tixT {b : CE} {ds : List D} {Q : D → Sto → Prop} (h : W (evE C b ρ S) fun y S2 => W (tixD ds y S2) Q) : W (tixK C b ρ (.tup ds) S) Q := by
  show W (Res.bind _ _) _
  rw [W_bind]
  exact h
theorem v_tixR {b : CE} {j : Nat} {ds : List D} {Q : D → Sto → Prop} (k : S[j]? = some (.lst ds)) (h : W (evE C b ρ S) fun y S2 => W (may (ixD (.ref j) y S2) fun n => .ok (.int (n : Nat)) S2) Q) : W (tixK C b ρ (.ref j) S) Q := by
  have e : tixK C b ρ (.ref j) S = (evE C b ρ S).bind fun y S2 => may (ixD (.ref j) y S2) fun n => .ok (.int (n : Nat)) S2 := by
    unfold tixK
    simp only [withL, k]
  rw [e, W_bind]
  exact h
theorem w_neg {a : CE} {Q : D → Sto → Prop} (h : W (evE C a ρ S) fun x S1 => ∃ i, x = .int i ∧ Q (.int (-i)) S1) : W (evE C (.neg a) ρ S) Q := by
  simp only [evE, W_bind]
  refine W_mono h fun x S1 ⟨i, e, k⟩ => ?_
  subst e
  simpa using k
theorem w_oN {Q : Option Int → Sto → Prop} (h : Q none S) : W (evO C (.none) ρ S) Q := by
  simpa [evO] using h
theorem w_oS {a : CE} {Q : Option Int → Sto → Prop} (h : W (evE C a ρ S) fun x S1 => ∃ i, x = .int i ∧ Q (some i) S1) : W (evO C (.some a) ρ S) Q := by
  simp only [evO, W_bind]
  refine W_mono h fun x S1 ⟨i, e, k⟩ => ?_
  subst e
  simpa using k
theorem w_nil {Q : List D → Sto → Prop} (h : Q [] S) : W (evEs C (.nil) ρ S) Q := by
  simpa [evEs] using h
theorem w_cons {a : CE} {r : CEs} {Q : List D → Sto → Prop} (h : W (evE C a ρ S) fun d S1 => W (evEs C r ρ S1) fun ds S2 => Q (d :: ds) S2) : W (evEs C (.cons a r) ρ S) Q := by
  simpa [evEs] using h
theorem w_disp {es : CEs} {Q : List D → Sto → Prop} (h : W (evEs C es ρ S) fun ds S1 => ds.length ≤ sizeLine ∧ Q ds S1) : W (evQ C (.disp es) ρ S) Q := by
  simpa [evQ] using h
theorem w_comp {own : List Nat} {g : CN} {it : CI} {elt : CE} {Q : List D → Sto → Prop} (h : W (evI C it ρ S) fun t S1 => t.items.length ≤ sizeLine ∧ W (loopQ t.still (fun d S2 => may (bindN g d (wipeE ρ own) S2) fun ρ' => (evE C elt ρ' S2).bind fun x S3 => .ok (some x) S3) t.items S1) Q) : W (evQ C (.comp own g it elt) ρ S) Q := by
  simpa [evQ] using h
theorem w_compIf {own : List Nat} {g : CN} {it : CI} {c : CT} {elt : CE} {Q : List D → Sto → Prop} (h : W (evI C it ρ S) fun t S1 => t.items.length ≤ sizeLine ∧ W (loopQ t.still (fun d S2 => may (bindN g d (wipeE ρ own) S2) fun ρ' => (evT C c ρ' S2).bind fun k S3 => if k = true then (evE C elt ρ' S3).bind fun x S4 => .ok (some x) S4 else .ok none S3) t.items S1) Q) : W (evQ C (.compIf own g it c elt) ρ S) Q := by
  simpa [evQ] using h
theorem w_cat {a b : CR} {Q : List D → Sto → Prop} (h : W (evR C a ρ S) fun v S1 => W (evR C b ρ S1) fun w S2 => W (may (trOf S2 v) fun x => may (trOf S2 w) fun y => ask (x.length + y.length ≤ sizeLine) (.ok (x ++ y) S2)) Q) : W (evQ C (.cat a b) ρ S) Q := by
  simpa [evQ] using h
theorem w_sorted {r : CR} {Q : List D → Sto → Prop} (h : W (evR C r ρ S) fun v S1 => W (may (soOf S1 v) fun ds => sortD S1 ds) Q) : W (evQ C (.sorted r) ρ S) Q := by
  simpa [evQ] using h
theorem w_list {r : CR} {Q : List D → Sto → Prop} (h : W (evR C r ρ S) fun v S1 => W (may (lstOf S1 v) fun ds => .ok ds S1) Q) : W (evQ C (.list r) ρ S) Q := by
  simpa [evQ] using h
theorem w_rv {r : CR} {Q : D → Sto → Prop} (h : W (evR C r ρ S) fun v S1 => W (rvD v S1) Q) : W (evE C (.rv r) ρ S) Q := by
  simpa [evE] using h
theorem v_rvT {ds : List D} {Q : D → Sto → Prop} (h : Q (.tup ds.reverse) S) : W (rvD (.val (.tup ds)) S) Q := by
  show W (Res.ok _ _) _
  simpa using h
theorem v_rvL {v : RV} {ds : List D} {Q : D → Sto → Prop} (k : lsOf S v = some ds) (h : Q (.ref S.length) (S ++ [.lst ds.reverse])) : W (rvD v S) Q := by
  have e : rvD v S = may (lsOf S v) fun ds => .ok (.ref S.length) (S ++ [.lst ds.reverse]) := by
    cases v with
    | own _ => rfl
    | val d =>
      cases d with
      | tup ds => cases k
      | _ => rfl
  rw [e, k]
  show W (Res.ok _ _) _
  simpa using h
theorem w_sset {r : CR} {Q : List D → Sto → Prop} (h : W (evR C r ρ S) fun v S1 => W (may (lsOf S1 v) fun ds => may (intsOf ds) fun ns => ask (ns.length < 64) (.ok ((sortU ns).map .int) S1)) Q) : W (evQ C (.sset r) ρ S) Q := by
  simpa [evQ] using h
theorem w_rev {r : CR} {Q : List D → Sto → Prop} (h : W (evR C r ρ S) fun v S1 => W (may (lsOf S1 v) fun ds => .ok ds.reverse S1) Q) : W (evQ C (.rev r) ρ S) Q := by
  simpa [evQ] using h
theorem w_listRg {a b : CE} {Q : List D → Sto → Prop} (h : W (evE C a ρ S) fun x S1 => W (evE C b ρ S1) fun y S2 => ∃ i j, x = .int i ∧ y = .int j ∧ RgOk i j ∧ Q (rgD i j) S2) : W (evQ C (.listRg a b) ρ S) Q := by
  simp only [evQ, W_bind]
  refine W_mono h fun x S1 h => W_mono h fun y S2 ⟨i, j, e1, e2, k⟩ => ?_
  subst e1 e2
  simpa using k
theorem w_q {c : CQ} {Q : RV → Sto → Prop} (h : W (evQ C c ρ S) fun ds S1 => Q (.own ds) S1) : W (evR C (.q c) ρ S) Q := by
  simpa [evR] using h
theorem w_e {c : CE} {Q : RV → Sto → Prop} (h : W (evE C c ρ S) fun d S1 => Q (.val d) S1) : W (evR C (.e c) ρ S) Q := by
  simpa [evR] using h
theorem w_ir {c : CR} {Q : Itv → Sto → Prop} (h : W (evR C c ρ S) fun v S1 => W (may (itOf v S1) fun t => .ok t S1) Q) : W (evI C (.r c) ρ S) Q := by
  simpa [evI] using h
theorem w_rg {a b : CE} {Q : Itv → Sto → Prop} (h : W (evE C a ρ S) fun x S1 => W (evE C b ρ S1) fun y S2 => ∃ i j, x = .int i ∧ y = .int j ∧ (bd62 i ∧ bd62 j) ∧ Q ⟨rgD i j, none⟩ S2) : W (evI C (.rg a b) ρ S) Q := by
  simp only [evI, W_bind]
  refine W_mono h fun x S1 h => W_mono h fun y S2 ⟨i, j, e1, e2, k⟩ => ?_
  subst e1 e2
  simpa using k
theorem w_rgd {a b : CE} {Q : Itv → Sto → Prop} (h : W (evE C a ρ S) fun x S1 => W (evE C b ρ S1) fun y S2 => ∃ i j, x = .int i ∧ y = .int j ∧ (bd62 i ∧ bd62 j) ∧ Q ⟨rgdD i j, none⟩ S2) : W (evI C (.rgd a b) ρ S) Q := by
  simp only [evI, W_bind]
  refine W_mono h fun x S1 h => W_mono h fun y S2 ⟨i, j, e1, e2, k⟩ => ?_
  subst e1 e2
  simpa using k
theorem w_tv {e : CE} {Q : Bool → Sto → Prop} (h : W (evE C e ρ S) fun x S1 => W (may (tru S1 x) fun k => .ok k S1) Q) : W (evT C (.v e) ρ S) Q := by
  simpa [evT] using h
theorem w_tand {a b : CT} {Q : Bool → Sto → Prop} (h : W (evT C a ρ S) fun k S1 => W (if k = true then evT C b ρ S1 else .ok false S1) Q) : W (evT C (.and a b) ρ S) Q := by
  simpa [evT] using h
theorem w_tor {a b : CT} {Q : Bool → Sto → Prop} (h : W (evT C a ρ S) fun k S1 => W (if k = true then .ok true S1 else evT C b ρ S1) Q) : W (evT C (.or a b) ρ S) Q := by
  simpa [evT] using h
theorem w_tnot {a : CT} {Q : Bool → Sto → Prop} (h : W (evT C a ρ S) fun k S1 => Q (!k) S1) : W (evT C (.not a) ρ S) Q := by
  simpa [evT] using h
theorem w_set {i : Nat} {e : CE} {Q : Fl → Sto → Prop} (h : W (evE C e ρ S) fun d S1 => Q (.nx (ρ.set i (some d))) S1) : W (evS C (.set (.nm i) e) ρ S) Q := by
  simpa [evS, bindN] using h
theorem w_setT {is : List Nat} {e : CE} {Q : Fl → Sto → Prop} (h : W (evE C e ρ S) fun d S1 => W (may (bindN (.tup is) d ρ S1) fun ρ' => .ok (.nx ρ') S1) Q) : W (evS C (.set (.tup is) e) ρ S) Q := by
  simpa [evS] using h
theorem w_par {i j : Nat} {a b : CE} {Q : Fl → Sto → Prop} (h : W (evE C a ρ S) fun x S1 => W (evE C b ρ S1) fun y S2 => Q (.nx ((ρ.set i (some x)).set j (some y))) S2) : W (evS C (.par i j a b) ρ S) Q := by
  simpa [evS] using h
theorem w_sub {o i e : CE} {Q : Fl → Sto → Prop} (h : W (evE C e ρ S) fun d S1 => W (evE C o ρ S1) fun x S2 => W (evE C i ρ S2) fun y S3 => W (setD x y d S3) fun _ S4 => Q (.nx ρ) S4) : W (evS C (.sub o i e) ρ S) Q := by
  simpa [evS] using h
theorem w_aug {i : Nat} {p : Bop} {e : CE} {d : D} {Q : Fl → Sto → Prop} (k : ρ[i]? = some (some d))(h : W (evE C e ρ S) fun y S1 => W (augD p d y S1) fun z S2 => Q (.nx (ρ.set i (some z))) S2) : W (evS C (.aug i p e) ρ S) Q := by
  simpa [evS, k] using h
def augK (C : Orc) (ρ : En) (p : Bop) (e : CE) (x y : D) (S2 : Sto) (Q : Fl → Sto → Prop) : Prop := W (getD x y S2) fun v S3 => W (evE C e ρ S3) fun w S4 => W (augD p v w S4) fun z S5 => W (setD x y z S5) fun _ S6 => Q (.nx ρ) S6
theorem w_augS {o i e : CE} {p : Bop} {Q : Fl → Sto → Prop} (h : W (evE C o ρ S) fun x S1 => W (evE C i ρ S1) fun y S2 => augK C ρ p e x y S2 Q) : W (evS C (.augS o i p e) ρ S) Q := by
  simp only [evS, W_bind, W_ok]
  exact h
theorem w_augK {e : CE} {p : Bop} {Q : Fl → Sto → Prop} {a : Nat} {ds : List D} {j : Int} {v : D} (k1 : S[a]? = some (.lst ds)) (k2 : atI ds j = some v) (h : W (evE C e ρ S) fun w S4 => W (augD p v w S4) fun z S5 => W (setD (.ref a) (.int j) z S5) fun _ S6 => Q (.nx ρ) S6) : augK C ρ p e (.ref a) (.int j) S Q := by
  unfold augK
  simpa [getD, idxD, k1, k2] using h
/-- the same of a dict -/
theorem w_augD {e : CE} {p : Bop} {Q : Fl → Sto → Prop} {a : Nat} {ks : List (Key × D)} {x v : D} {k : Key} (k1 : S[a]? = some (.dic ks)) (k2 : keyOf x = some k) (k3 : gD ks k = some v) (h : W (evE C e ρ S) fun w S4 => W (augD p v w S4) fun z S5 => W (setD (.ref a) x z S5) fun _ S6 => Q (.nx ρ) S6) : augK C ρ p e (.ref a) x S Q := by
  unfold augK
  cases x <;> first | (cases k2; done) | (cases k2; simpa [getD, idxD, k1, k3] using h)
theorem w_raise {Q : Fl → Sto → Prop} (h : False) : W (evS C .raise ρ S) Q := h.elim
theorem w_ex {e : CE} {Q : Fl → Sto → Prop} (h : W (evE C e ρ S) fun _ S1 => Q (.nx ρ) S1) : W (evS C (.ex e) ρ S) Q := by
  simpa [evS] using h
theorem w_ret {e : CE} {Q : Fl → Sto → Prop} (h : W (evE C e ρ S) fun d S1 => Q (.rt d) S1) : W (evS C (.ret e) ρ S) Q := by
  simpa [evS] using h
theorem w_ite {t : CT} {a b : CSs} {Q : Fl → Sto → Prop} (h : W (evT C t ρ S) fun k S1 => W (if k = true then evSs C a ρ S1 else evSs C b ρ S1) Q) : W (evS C (.ite t a b) ρ S) Q := by
  simpa [evS] using h
theorem w_for {g : CN} {it : CI} {b : CSs} {Q : Fl → Sto → Prop} (h : W (evI C it ρ S) fun t S1 => W (loopS t.still (fun d ρ1 S2 => may (bindN g d ρ1 S2) fun ρ2 => evSs C b ρ2 S2) t.items ρ S1) Q) : W (evS C (.for g it b) ρ S) Q := by
  have hd : dcAt it ρ S = none := by
    cases hd : dcAt it ρ S with
    | none => rfl
    | some q =>
      obtain ⟨a, ks⟩ := q
      obtain ⟨i, rfl, ei, es⟩ := dcAt_some hd
      obtain ⟨t, S1, e, _⟩ := h
      simp [evI, evR, evE, ei, es, may, itOf, sqOf, lsOf, Res.bind] at e
  simp only [evS, hd, W_bind]
  exact h
/-- a loop over a dict by its name -/
theorem w_forD {g : CN} {i a : Nat} {ks : List (Key × D)} {b : CSs} {Q : Fl → Sto → Prop} (ei : ρ[i]? = some (some (.ref a))) (es : S[a]? = some (.dic ks)) (h : W (loopS (fun S2 => S2[a]? = some (.frd ks)) (fun d ρ1 S2 => may (bindN g d ρ1 S2) fun ρ2 => evSs C b ρ2 S2) (ks.map fun p => keyD p.1) ρ (S.set a (.frd ks))) fun fl S3 => S3[a]? = some (.frd ks) ∧ Q fl (S3.set a (.dic ks))) : W (evS C (.for g (.r (.e (.var i))) b) ρ S) Q := by
  have hd : dcAt (.r (.e (.var i))) ρ S = some (a, ks) := by simp [dcAt, ei, es]
  simp only [evS, hd, W_bind]
  refine W_mono h fun fl S3 q => ?_
  rw [PQ.ask, if_pos q.1]
  exact ⟨_, _, rfl, q.2⟩
theorem w_while {t : CT} {b : CSs} {Q : Fl → Sto → Prop} (h : W (whileS (evT C t) (evSs C b) turns ρ S) Q) : W (evS C (.while t b) ρ S) Q := by
  simpa [evS] using h
theorem w_brk {Q : Fl → Sto → Prop} (h : Q (.bk ρ) S) : W (evS C (.brk) ρ S) Q := by
  simpa [evS] using h
theorem w_cont {Q : Fl → Sto → Prop} (h : Q (.ct ρ) S) : W (evS C (.cont) ρ S) Q := by
  simpa [evS] using h
theorem w_pass {Q : Fl → Sto → Prop} (h : Q (.nx ρ) S) : W (evS C (.pass) ρ S) Q := by
  simpa [evS] using h
theorem w_snil {Q : Fl → Sto → Prop} (h : Q (.nx ρ) S) : W (evSs C (.nil) ρ S) Q := by
  simpa [evSs] using h
noncomputable def seqK (C : Orc) (r : CSs) (fl : Fl) (S1 : Sto) : Res Fl := match fl with
  | .nx ρ' => evSs C r ρ' S1
  | f => .ok f S1
theorem w_scons {s : CS} {r : CSs} {Q : Fl → Sto → Prop} (h : W (evS C s ρ S) fun fl S1 => W (seqK C r fl S1) Q) : W (evSs C (.cons s r) ρ S) Q := by
  have e : evSs C (.cons s r) ρ S = (evS C s ρ S).bind fun fl S1 => seqK C r fl S1 := rfl
  rw [e, W_bind]
  exact h
theorem w_nx {r : CSs} {Q : Fl → Sto → Prop} (h : W (evSs C r ρ S) Q) : W (seqK C r (.nx ρ) S) Q := h
theorem w_rt {r : CSs} {d : D} {Q : Fl → Sto → Prop} (h : Q (.rt d) S) : W (seqK C r (.rt d) S) Q := w_mk h where
  w_mk {fl : Fl} (h : Q fl S) : W (.ok fl S) Q := (W_ok (Q := Q)).symm ▸ h
theorem w_bk {r : CSs} {Q : Fl → Sto → Prop} (h : Q (.bk ρ) S) : W (seqK C r (.bk ρ) S) Q := (W_ok (Q := Q)).symm ▸ h
theorem w_ct {r : CSs} {Q : Fl → Sto → Prop} (h : Q (.ct ρ) S) : W (seqK C r (.ct ρ) S) Q := (W_ok (Q := Q)).symm ▸ h
theorem v_add {i j : Int} {Q : D → Sto → Prop} (h : Q (.int (i + j)) S) : W (binD .add (.int i) (.int j) S) Q := by
  simpa [binD] using h
theorem v_sub {i j : Int} {Q : D → Sto → Prop} (h : Q (.int (i - j)) S) : W (binD .sub (.int i) (.int j) S) Q := by
  simpa [binD] using h
theorem v_band {i j : Int} {Q : D → Sto → Prop} (h : Q (.int (Builtin.bitAnd i j)) S) : W (binD .band (.int i) (.int j) S) Q := by
  simpa [binD] using h
theorem v_bor {i j : Int} {Q : D → Sto → Prop} (h : Q (.int (Builtin.bitOr i j)) S) : W (binD .bor (.int i) (.int j) S) Q := by
  simpa [binD] using h
theorem v_bxor {i j : Int} {Q : D → Sto → Prop} (h : Q (.int (Builtin.bitXor i j)) S) : W (binD .bxor (.int i) (.int j) S) Q := by
  simpa [binD] using h
theorem v_mul {i j : Int} {Q : D → Sto → Prop} (k : IntMulOk i j) (h : Q (.int (i * j)) S) : W (binD .mul (.int i) (.int j) S) Q := by
  simpa [binD, k] using h
theorem v_fdiv {i j : Int} {Q : D → Sto → Prop} (k : FDivOk i j) (h : Q (.int (i.fdiv j)) S) : W (binD .fdiv (.int i) (.int j) S) Q := by
  simpa [binD, k] using h
theorem v_mod {i j : Int} {Q : D → Sto → Prop} (k : j ≠ 0) (h : Q (.int (i.fmod j)) S) : W (binD .mod (.int i) (.int j) S) Q := by
  simpa [binD, k] using h
theorem v_pow {i j : Int} {Q : D → Sto → Prop} (k : CPow i j) (h : Q (.int (i ^ j.toNat)) S) : W (binD .pow (.int i) (.int j) S) Q := by
  simpa [binD, k] using h
theorem v_shl {i j : Int} {Q : D → Sto → Prop} (k : CPow i j) (h : Q (.int (i * 2 ^ j.toNat)) S) : W (binD .shl (.int i) (.int j) S) Q := by
  simpa [binD, k] using h
theorem v_shr {i j : Int} {Q : D → Sto → Prop} (k : 0 ≤ j) (h : Q (.int (i / 2 ^ j.toNat)) S) : W (binD .shr (.int i) (.int j) S) Q := by
  simpa [binD, k] using h
theorem v_addT {a b : List D} {Q : D → Sto → Prop} (k : a.length + b.length ≤ sizeLine) (h : Q (.tup (a ++ b)) S) : W (binD .add (.tup a) (.tup b) S) Q := by
  simpa [binD, k] using h
theorem v_addS {a b : Str} {Q : D → Sto → Prop} (k : a.length + b.length ≤ sizeLine) (h : Q (.str (a ++ b)) S) : W (binD .add (.str a) (.str b) S) Q := by
  simpa [binD, k] using h
theorem v_addL {i j : Nat} {a b : List D} {Q : D → Sto → Prop} (k1 : S[i]? = some (.lst a)) (k2 : S[j]? = some (.lst b)) (k : a.length + b.length ≤ sizeLine) (h : Q (.ref S.length) (S ++ [.lst (a ++ b)])) : W (binD .add (.ref i) (.ref j) S) Q := by
  simpa [binD, k, k1, k2] using h
theorem v_augAdd {i j : Int} {Q : D → Sto → Prop} (h : Q (.int (i + j)) S) : W (augD .add (.int i) (.int j) S) Q := by
  simpa [augD] using h
theorem v_augSub {i j : Int} {Q : D → Sto → Prop} (h : Q (.int (i - j)) S) : W (augD .sub (.int i) (.int j) S) Q := by
  simpa [augD] using h
theorem v_ordD {o : Cop} {x y : D} {p q : PyData} {Q : D → Sto → Prop} (hx : toP S x = some p) (hy : toP S y = some q) (hc : cmpOk p q = true) (h : Q (.bl (ordP o p q)) S) : W (ordD o x y S) Q := by
  unfold ordD
  rw [hx, hy]
  simpa [hc] using h
theorem v_lt {i j : Int} {Q : D → Sto → Prop} (h : Q (.bl (decide (i < j))) S) : W (cmpD .lt (.int i) (.int j) S) Q := by
  simpa [cmpD, cmpI] using h
theorem v_le {i j : Int} {Q : D → Sto → Prop} (h : Q (.bl (decide (i ≤ j))) S) : W (cmpD .le (.int i) (.int j) S) Q := by
  simpa [cmpD, cmpI] using h
theorem v_gt {i j : Int} {Q : D → Sto → Prop} (h : Q (.bl (decide (j < i))) S) : W (cmpD .gt (.int i) (.int j) S) Q := by
  simpa [cmpD, cmpI] using h
theorem v_ge {i j : Int} {Q : D → Sto → Prop} (h : Q (.bl (decide (j ≤ i))) S) : W (cmpD .ge (.int i) (.int j) S) Q := by
  simpa [cmpD, cmpI] using h
theorem v_eq {i j : Int} {Q : D → Sto → Prop} (h : Q (.bl (decide (i = j))) S) : W (cmpD .eq (.int i) (.int j) S) Q := by
  simpa [cmpD, dEq, scalD, eqSc] using h
theorem v_ne {i j : Int} {Q : D → Sto → Prop} (h : Q (.bl (!decide (i = j))) S) : W (cmpD .ne (.int i) (.int j) S) Q := by
  simpa [cmpD, dEq, scalD, eqSc] using h
theorem v_eqS {i j : Str} {Q : D → Sto → Prop} (h : Q (.bl (decide (i = j))) S) : W (cmpD .eq (.str i) (.str j) S) Q := by
  simpa [cmpD, dEq, scalD, eqSc] using h
theorem v_neS {i j : Str} {Q : D → Sto → Prop} (h : Q (.bl (!decide (i = j))) S) : W (cmpD .ne (.str i) (.str j) S) Q := by
  simpa [cmpD, dEq, scalD, eqSc] using h
theorem v_eqB {i j : Bool} {Q : D → Sto → Prop} (h : Q (.bl (decide (i = j))) S) : W (cmpD .eq (.bl i) (.bl j) S) Q := by
  simpa [cmpD, dEq, scalD, eqSc] using h
theorem v_intI {i : Int} {Q : D → Sto → Prop} (h : Q (.int i) S) : W (fn1D .int (.int i) S) Q := by
  simpa [fn1D] using h
theorem v_intB {b : Bool} {Q : D → Sto → Prop} (h : Q (.int (if b = true then 1 else 0)) S) : W (fn1D .int (.bl b) S) Q := by
  simpa [fn1D] using h
theorem v_abs {i : Int} {Q : D → Sto → Prop} (h : Q (.int (if i < 0 then -i else i)) S) : W (fn1D .abs (.int i) S) Q := by
  simpa [fn1D] using h
theorem v_str {i : Int} {Q : D → Sto → Prop} (k : i.natAbs.log2 < 1920) (h : Q (.str (toString i)) S) : W (fn1D .str (.int i) S) Q := by
  simpa [fn1D, k] using h
theorem v_repr {x : D} {p : PyData} {Q : D → Sto → Prop} (k : toP S x = some p) (h1 : p.showable = true) (h2 : p.hasDict = false) (h3 : p.shown.length ≤ sizeLine) (h4 : p.depth ≤ 1000) (h : Q (.str p.shown) S) : W (fn1D .repr x S) Q := by
  have e : fn1D .repr x S = may (toP S x) fun p => if p.showable = true ∧ p.hasDict = false ∧ p.shown.length ≤ sizeLine ∧ p.depth ≤ 1000 then .ok (.str p.shown) S else .bad := by cases x <;> rfl
  rw [e, k, may_some, if_pos ⟨h1, h2, h3, h4⟩, W_ok]
  exact h
theorem v_gcd {i j : Int} {Q : D → Sto → Prop} (h : Q (.int ((Nat.gcd i.natAbs j.natAbs : Nat) : Int)) S) : W (fn2D .gcd (.int i) (.int j) S) Q := by
  simpa [fn2D] using h
theorem v_min2 {i j : Int} {Q : D → Sto → Prop} (h : Q (.int (if j < i then j else i)) S) : W (fn2D .min (.int i) (.int j) S) Q := by
  simpa [fn2D] using h
theorem v_max2 {i j : Int} {Q : D → Sto → Prop} (h : Q (.int (if j > i then j else i)) S) : W (fn2D .max (.int i) (.int j) S) Q := by
  simpa [fn2D] using h
theorem v_idx {a : Nat} {ds : List D} {i : Int} {d : D} {Q : D → Sto → Prop} (k1 : S[a]? = some (.lst ds)) (k2 : atI ds i = some d) (h : Q d S) : W (idxD (.ref a) (.int i) S) Q := by
  simpa [idxD, k1, k2] using h
theorem v_idxT {ds : List D} {i : Int} {d : D} {Q : D → Sto → Prop} (k2 : atI ds i = some d) (h : Q d S) : W (idxD (.tup ds) (.int i) S) Q := by
  simpa [idxD, k2] using h
theorem v_idxF {ds : List D} {i : Int} {d : D} {Q : D → Sto → Prop} (k2 : atI ds i = some d) (h : Q d S) : W (idxD (.fix ds) (.int i) S) Q := by
  simpa [idxD, k2] using h
theorem v_slc {a : Nat} {ds : List D} {lo hi : Option Int} {Q : D → Sto → Prop} (k1 : S[a]? = some (.lst ds)) (h : Q (.ref S.length) (S ++ [.lst (cutD ds lo hi)])) : W (slcD (.ref a) lo hi S) Q := by
  simpa [slcD, k1] using h
theorem v_slcT {ds : List D} {lo hi : Option Int} {Q : D → Sto → Prop} (h : Q (.tup (cutD ds lo hi)) S) : W (slcD (.tup ds) lo hi S) Q := by
  simpa [slcD] using h
theorem v_app {a : Nat} {ds : List D} {v : D} {Q : D → Sto → Prop} (k1 : S[a]? = some (.lst ds)) (k2 : ds.length < sizeLine) (h : Q .non (S.set a (.lst (ds ++ [v])))) : W (appD (.ref a) v S) Q := by
  simpa [appD, withL, k1, k2] using h
theorem v_len {v : RV} {ds : List D} {Q : D → Sto → Prop} (k : sqOf S v = some ds) (h : Q (.int ds.length) S) : W (aggD .len v S) Q := by
  have e : aggD .len v S = .ok (.int ds.length) S := by
    cases v with
    | own xs =>
      have e : aggD .len (.own xs) S = .ok (.int xs.length) S := rfl
      cases k
      exact e
    | val d =>
      cases d with
      | str z => simp [sqOf, lsOf] at k
      | non => simp [sqOf, lsOf] at k
      | bl z => simp [sqOf, lsOf] at k
      | int z => simp [sqOf, lsOf] at k
      | tup z =>
        have e : aggD .len (.val (.tup z)) S = .ok (.int z.length) S := rfl
        cases k
        exact e
      | fix z =>
        have e : aggD .len (.val (.fix z)) S = .ok (.int z.length) S := rfl
        cases k
        exact e
      | ref z =>
        have e : aggD .len (.val (.ref z)) S = may (lenOf S (.val (.ref z))) fun n => .ok (.int n) S := rfl
        unfold lenOf at e
        rw [e, k]
        rfl
  rw [e, W_ok]
  exact h
theorem v_tuple {v : RV} {ds : List D} {Q : D → Sto → Prop} (k : sqOf S v = some ds) (h : Q (.tup ds) S) : W (aggD .tuple v S) Q := by
  simpa [aggD, k] using h
theorem sq_of_ls {S : Sto} {v : RV} {ds : List D} (k : lsOf S v = some ds) : sqOf S v = some ds := by
  cases v with
  | own es => exact k
  | val d => cases d <;> first | exact k | cases k
theorem v_sumQ {v : RV} {ds : List D} {ns : List Int} {Q : D → Sto → Prop} (k : sqOf S v = some ds) (k2 : intsOf ds = some ns) (h : Q (.int ns.sum) S) : W (aggD .sum v S) Q := by
  simpa [aggD, k, k2] using h
theorem v_sum {v : RV} {ds : List D} {ns : List Int} {Q : D → Sto → Prop} (k : lsOf S v = some ds) (k2 : intsOf ds = some ns) (h : Q (.int ns.sum) S) : W (aggD .sum v S) Q := v_sumQ (sq_of_ls k) k2 h
theorem v_all {v : RV} {ds : List D} {bs : List Bool} {Q : D → Sto → Prop} (k : lsOf S v = some ds) (k2 : boolsOf ds = some bs) (h : Q (.bl (bs.all id)) S) : W (aggD .all v S) Q := by
  simpa [aggD, k, k2] using h
theorem v_any {v : RV} {ds : List D} {bs : List Bool} {Q : D → Sto → Prop} (k : lsOf S v = some ds) (k2 : boolsOf ds = some bs) (h : Q (.bl (bs.any id)) S) : W (aggD .any v S) Q := by
  simpa [aggD, k, k2] using h
theorem v_max {v : RV} {ds : List D} {ns : List Int} {m : Int} {Q : D → Sto → Prop} (k : lsOf S v = some ds) (k2 : intsOf ds = some ns) (k3 : greatest ns = some m) (h : Q (.int m) S) : W (aggD .max v S) Q := by
  simpa [aggD, k, k2, k3] using h
theorem v_min {v : RV} {ds : List D} {ns : List Int} {m : Int} {Q : D → Sto → Prop} (k : lsOf S v = some ds) (k2 : intsOf ds = some ns) (k3 : least ns = some m) (h : Q (.int m) S) : W (aggD .min v S) Q := by
  simpa [aggD, k, k2, k3] using h
theorem v_minD {v : RV} {d : D} {ds : List D} {ps : List PyData} {Q : D → Sto → Prop} (k : lsOf S v = some (d :: ds)) (k2 : intsOf (d :: ds) = none) (k3 : toPsW (fun _ => none) (d :: ds) = some ps) (k4 : PySem.W.AlikeAll ps ∧ PyData.depthAll ps ≤ 64 ∧ ∀ q ∈ ps, q.canLay0 = true) (h : Q (minDD d ds) S) : W (aggD .min v S) Q := by
  have e : aggD .min v S = .ok (minDD d ds) S := by
    show (may (lsOf S v) fun ds => match intsOf ds with
      | some ns => may (least ns) fun m => Res.ok (D.int m) S
      | none => minRow S ds) = _
    rw [k]
    show (match intsOf (d :: ds) with
      | some ns => may (least ns) fun m => Res.ok (D.int m) S
      | none => minRow S (d :: ds)) = _
    rw [k2]
    show (match toPsW (fun _ => none) (d :: ds) with
      | some ps => PQ.ask (PySem.W.AlikeAll ps ∧ PyData.depthAll ps ≤ 64 ∧ ∀ q ∈ ps, q.canLay0 = true) (Res.ok (minDD d ds) S)
      | none => Res.bad) = _
    rw [k3]
    exact if_pos k4
  rw [e]
  simpa using h
theorem v_set {a : Nat} {ds : List D} {i : Int} {j : Nat} {v : D} {Q : Unit → Sto → Prop} (k1 : S[a]? = some (.lst ds)) (k2 : ixN ds.length i = some j) (h : Q () (S.set a (.lst (ds.set j v)))) : W (setD (.ref a) (.int i) v S) Q := by
  simpa [setD, keyT, setD0, isDic, withL, k1, k2] using h
theorem v_addB {i : Int} {b : Bool} {Q : D → Sto → Prop} (h : Q (.int (i + if b = true then 1 else 0)) S) : W (binD .add (.int i) (.bl b) S) Q := by
  simpa [binD] using h
theorem v_mulS {a : Str} {k : Int} {Q : D → Sto → Prop} (z : MulOk a k) (h : Q (.str (Txt.mul a k)) S) : W (binD .mul (.str a) (.int k) S) Q := by
  simpa [binD, z] using h
theorem v_mulT {a : List D} {k : Int} {Q : D → Sto → Prop} (z : -(2 ^ 63) ≤ k ∧ k ≤ 1000 ∧ a.length ≤ 1000) (h : Q (.tup (List.replicate k.toNat a).flatten) S) : W (binD .mul (.tup a) (.int k) S) Q := by
  have e : binD .mul (.tup a) (.int k) S = ask (-(2 ^ 63) ≤ k ∧ k ≤ 1000 ∧ a.length ≤ 1000) (.ok (.tup (List.replicate k.toNat a).flatten) S) := rfl
  rw [e, W_ask, W_ok]
  exact ⟨z, h⟩
theorem w_dnew {Q : D → Sto → Prop} (h : Q (.ref S.length) (S ++ [.dic []])) : W (evE C .dnew ρ S) Q := by
  simpa [evE] using h
theorem w_dget {a k x : CE} {Q : D → Sto → Prop} (h : W (evE C a ρ S) fun o S1 => W (withK S1 o ((evE C k ρ S1).bind fun y S2 => (evE C x ρ S2).bind fun z S3 => dgetD o y z S3)) Q) : W (evE C (.dget a k x) ρ S) Q := by
  simpa [evE] using h
theorem w_dsetd {a k x : CE} {Q : D → Sto → Prop} (h : W (evE C a ρ S) fun o S1 => W (withK S1 o ((evE C k ρ S1).bind fun y S2 => (evE C x ρ S2).bind fun z S3 => setdD o y z S3)) Q) : W (evE C (.dsetd a k x) ρ S) Q := by
  simpa [evE] using h
theorem keyT_none {x : D} {k : Key} (h : keyOf x = some k) : keyT x = none := by
  cases x <;> first | (cases h; done) | rfl
theorem keyT_tup {ds : List D} {ks : List NestedKey} (h1 : nksOf ds = some ks) (h2 : (NestedKey.tup ks).depth ≤ 8) : keyT (.tup ds) = some (.tup ks) := by
  simp [keyT, h1, h2]
theorem v_dgetT {a : Nat} {ks : List (NestedKey × D)} {x y : D} {k : NestedKey} {Q : D → Sto → Prop} (k1 : S[a]? = some (.dkt ks)) (k2 : keyT x = some k) (h : Q ((gT ks k).getD y) S) : W (dgetD (.ref a) x y S) Q := by
  simpa [dgetD, dgetT, tabOf, k1, k2, may] using h
theorem v_dgetT0 {a : Nat} {x y : D} {k : NestedKey} {Q : D → Sto → Prop} (k1 : S[a]? = some (.dic [])) (k2 : keyT x = some k) (h : Q y S) : W (dgetD (.ref a) x y S) Q := by
  simpa [dgetD, dgetT, tabOf, k1, k2, may, gT] using h
theorem v_setT {a : Nat} {ks : List (NestedKey × D)} {x v : D} {k : NestedKey} {Q : Unit → Sto → Prop} (k1 : S[a]? = some (.dkt ks)) (k2 : keyT x = some k) (k3 : ks.length < sizeLine) (h : Q () (S.set a (.dkt (pT ks k v)))) : W (setD (.ref a) x v S) Q := by
  simpa [setD, setT, k1, k2, k3] using h
theorem v_setT0 {a : Nat} {x v : D} {k : NestedKey} {Q : Unit → Sto → Prop} (k1 : S[a]? = some (.dic [])) (k2 : keyT x = some k) (h : Q () (S.set a (.dkt [(k, v)]))) : W (setD (.ref a) x v S) Q := by
  simpa [setD, setT, k1, k2] using h
theorem v_setdT {a : Nat} {ks : List (NestedKey × D)} {x v : D} {k : NestedKey} {Q : D → Sto → Prop} (k1 : S[a]? = some (.dkt ks)) (k2 : keyT x = some k) (k3 : ks.length < sizeLine) (h : ∀ d, gT ks k = some d → Q d S) (h2 : gT ks k = none → Q v (S.set a (.dkt (ks ++ [(k, v)])))) : W (setdD (.ref a) x v S) Q := by
  cases e : gT ks k with
  | none => simpa [setdD, setdT, k1, k2, k3, e] using h2 e
  | some d => simpa [setdD, setdT, k1, k2, k3, e] using h d e
theorem v_setdT0 {a : Nat} {x v : D} {k : NestedKey} {Q : D → Sto → Prop} (k1 : S[a]? = some (.dic [])) (k2 : keyT x = some k) (h : Q v (S.set a (.dkt [(k, v)]))) : W (setdD (.ref a) x v S) Q := by
  simpa [setdD, setdT, k1, k2] using h
theorem v_setdK {a : Nat} {ks : List (Key × D)} {x v : D} {k : Key} {Q : D → Sto → Prop} (k1 : S[a]? = some (.dic ks)) (k2 : keyOf x = some k) (k3 : ks.length < sizeLine) (h : ∀ d, gD ks k = some d → Q d S) (h2 : gD ks k = none → Q v (S.set a (.dic (pD ks k v)))) : W (setdD (.ref a) x v S) Q := by
  cases e : gD ks k with
  | none => simpa [setdD, withD, keyT_none k2, k1, k2, k3, e, may] using h2 e
  | some d => simpa [setdD, withD, keyT_none k2, k1, k2, k3, e, may] using h d e
theorem v_idxTb {a : Nat} {ks : List (NestedKey × D)} {ds : List D} {d : D} {k : NestedKey} {Q : D → Sto → Prop} (k1 : S[a]? = some (.dkt ks)) (k2 : keyT (.tup ds) = some k) (k3 : gT ks k = some d) (h : Q d S) : W (idxD (.ref a) (.tup ds) S) Q := by
  simpa [idxD, idxT, k1, k2, k3, may] using h
theorem inD_T {a : Nat} {ks : List (NestedKey × D)} {ds : List D} {k : NestedKey} (k1 : S[a]? = some (.dkt ks)) (k2 : keyT (.tup ds) = some k) : inD (.tup ds) (.val (.ref a)) S = some (gT ks k).isSome := by
  simp [inD, sqOf, lsOf, signIn, dicOf, tabOf, k1, k2]
theorem inD_T0 {a : Nat} {ds : List D} {k : NestedKey} (k1 : S[a]? = some (.dic [])) (k2 : keyT (.tup ds) = some k) : inD (.tup ds) (.val (.ref a)) S = some false := by
  simp [inD, sqOf, lsOf, signIn, dicOf, keyOf, tabOf, k1, k2, gT]
theorem v_dget {a : Nat} {ks : List (Key × D)} {x y : D} {k : Key} {Q : D → Sto → Prop} (k1 : S[a]? = some (.dic ks)) (k2 : keyOf x = some k) (h : Q ((gD ks k).getD y) S) : W (dgetD (.ref a) x y S) Q := by
  simpa [dgetD, dgetK, keyT_none k2, withR, k1, k2] using h
theorem v_dgetF {a : Nat} {ks : List (Key × D)} {x y : D} {k : Key} {Q : D → Sto → Prop} (k1 : S[a]? = some (.frd ks)) (k2 : keyOf x = some k) (h : Q ((gD ks k).getD y) S) : W (dgetD (.ref a) x y S) Q := by
  simpa [dgetD, dgetK, keyT_none k2, withR, k1, k2] using h
/-- d[k] while d is walked -/
theorem v_idxF_ {a : Nat} {ks : List (Key × D)} {x d : D} {k : Key} {Q : D → Sto → Prop} (k1 : S[a]? = some (.frd ks)) (k2 : keyOf x = some k) (k3 : gD ks k = some d) (h : Q d S) : W (idxD (.ref a) x S) Q := by
  cases x <;> first | (cases k2; done) | (cases k2; simpa [idxD, k1, k3, may] using h)
theorem v_setK {a : Nat} {ks : List (Key × D)} {x v : D} {k : Key} {Q : Unit → Sto → Prop} (k1 : S[a]? = some (.dic ks)) (k2 : keyOf x = some k) (k3 : ks.length < sizeLine) (h : Q () (S.set a (.dic (pD ks k v)))) : W (setD (.ref a) x v S) Q := by
  simpa [setD, setD0, keyT_none k2, isDic, withD, k1, k2, k3] using h
theorem v_idxK {a : Nat} {ks : List (Key × D)} {x d : D} {k : Key} {Q : D → Sto → Prop} (k1 : S[a]? = some (.dic ks)) (k2 : keyOf x = some k) (k3 : gD ks k = some d) (h : Q d S) : W (idxD (.ref a) x S) Q := by
  cases x <;> first | (cases k2; done) | (cases k2; simpa [idxD, k1, k3] using h)
theorem v_lenD {a : Nat} {ks : List (Key × D)} {Q : D → Sto → Prop} (k1 : S[a]? = some (.dic ks)) (h : Q (.int ks.length) S) : W (aggD .len (.val (.ref a)) S) Q := by
  have e : aggD .len (.val (.ref a)) S = may (lenOf S (.val (.ref a))) fun n => .ok (.int n) S := rfl
  have e2 : lenOf S (.val (.ref a)) = some ks.length := by simp [lenOf, sqOf, lsOf, dicOf, k1]
  rw [e, e2, may_some, W_ok]
  exact h
theorem inD_sign {c : Nat} {z : Str} : inD (.str ⟨#[c]⟩) (.val (.str z)) S = some (decide (c ∈ z.cps.toList)) := rfl
theorem inD_dic {a : Nat} {ks : List (Key × D)} {x : D} {k : Key} (k1 : S[a]? = some (.dic ks)) (k2 : keyOf x = some k) : inD x (.val (.ref a)) S = some (gD ks k).isSome := by
  cases x <;> simp [inD, signIn, sqOf, lsOf, dicOf, k1, k2]
section
variable {α β : Type} {Q : α → Sto → Prop}
theorem w_may {o : Option β} {f : β → Res α} {b : β} (k : o = some b) (h : W (f b) Q) : W (may o f) Q := by
  rw [k, may_some]
  exact h
theorem w_ask {p : Prop} {r : Res α} (k : p) (h : W r Q) : W (ask p r) Q := by
  rw [W_ask]
  exact ⟨k, h⟩
theorem w_ok {a : α} (h : Q a S) : W (.ok a S) Q := by
  rw [W_ok]
  exact h
theorem w_bind {r : Res β} {f : β → Sto → Res α} (h : W r fun b S => W (f b S) Q) : W (r.bind f) Q := by
  rw [W_bind]
  exact h
theorem w_withL {a : Nat} {ds : List D} {f : Nat → List D → Res α} (k : S[a]? = some (.lst ds)) (h : W (f a ds) Q) : W (withL S (.ref a) f) Q := by
  simpa [withL, k] using h
theorem w_withR {a : Nat} {ks : List (Key × D)} {f : Res α} (k : S[a]? = some (.dic ks)) (h : W f Q) : W (withK S (.ref a) f) Q := by
  simpa [withK, k] using h
theorem w_withRf {a : Nat} {ks : List (Key × D)} {f : Res α} (k : S[a]? = some (.frd ks)) (h : W f Q) : W (withK S (.ref a) f) Q := by
  simpa [withK, k] using h
theorem w_withRt {a : Nat} {ks : List (NestedKey × D)} {f : Res α} (k : S[a]? = some (.dkt ks)) (h : W f Q) : W (withK S (.ref a) f) Q := by
  simpa [withK, k] using h
theorem w_withD {a : Nat} {ks : List (Key × D)} {f : Nat → List (Key × D) → Res α} (k : S[a]? = some (.dic ks)) (h : W (f a ks) Q) : W (withD S (.ref a) f) Q := by
  simpa [withD, k] using h
theorem w_if {k : Bool} {A B : Res α} (h1 : k = true → W A Q) (h2 : k = false → W B Q) : W (if k = true then A else B) Q := by
  cases k
  · exact h2 rfl
  · exact h1 rfl
theorem w_ifd {p : Prop} {_ : Decidable p} {A B : Res α} (h1 : p → W A Q) (h2 : ¬p → W B Q) : W (if decide p = true then A else B) Q := w_if (fun h => h1 (of_decide_eq_true h)) fun h => h2 (of_decide_eq_false h)
theorem w_if_T {k : Bool} {A B : Res α} (hk : k = true) (h : W A Q) : W (if k = true then A else B) Q := by
  subst hk
  exact h
theorem w_if_F {k : Bool} {A B : Res α} (hk : k = false) (h : W B Q) : W (if k = true then A else B) Q := by
  subst hk
  exact h
theorem w_if_t {A B : Res α} (h : W A Q) : W (if true = true then A else B) Q := h
theorem w_if_f {A B : Res α} (h : W B Q) : W (if false = true then A else B) Q := h
theorem w_if_nt {A B : Res α} (h : W B Q) : W (if (!true) = true then A else B) Q := h
theorem w_if_nf {A B : Res α} (h : W A Q) : W (if (!false) = true then A else B) Q := h
theorem w_tru_b {b : Bool} {f : Bool → Res α} (h : W (f b) Q) : W (may (tru S (.bl b)) f) Q := h
theorem w_tru_i {i : Int} {f : Bool → Res α} (h : W (f (i != 0)) Q) : W (may (tru S (.int i)) f) Q := h
theorem w_tru_t {ds : List D} {f : Bool → Res α} (h : W (f (!ds.isEmpty)) Q) : W (may (tru S (.tup ds)) f) Q := h
theorem w_tru_r {i : Nat} {ds : List D} {f : Bool → Res α} (k : S[i]? = some (.lst ds)) (h : W (f (!ds.isEmpty)) Q) : W (may (tru S (.ref i)) f) Q := by
  simpa [tru, k] using h
end
/-- a body's end -/
noncomputable def retK (fl : Fl) (S : Sto) : Res D := match fl with
  | .nx _ => .ok .non S
  | .rt d => .ok d S
  | _ => .bad
theorem r_nx {Q : D → Sto → Prop} (h : Q .non S) : W (retK (.nx ρ) S) Q := (W_ok (Q := Q)).symm ▸ h
theorem r_rt {d : D} {Q : D → Sto → Prop} (h : Q d S) : W (retK (.rt d) S) Q := (W_ok (Q := Q)).symm ▸ h
/-- what a def hands back, its names laid out -/
theorem def_w {fn : Fn} {ds : List D} {ρ : En} {Q : D → Sto → Prop} (hl : ds.length = fn.ps) (hN : startE fn.N.length ds = ρ) (h : W (evSs C fn.body ρ S) fun fl S1 => W (retK fl S1) fun d S' => W (gc S d S') Q) : W (callF C fn ds S) Q := by
  subst hN
  refine callF_w hl ?_
  have e : runB C fn ds S = (evSs C fn.body (startE fn.N.length ds) S).bind fun fl S' => retK fl S' := rfl
  rw [e, W_bind]
  exact h
theorem orc_w {T : List Fn} {k f : Nat} {fn : Fn} {ds : List D} {ρ : En} {Q : D → Sto → Prop} (hf : T[f]? = some fn) (hl : ds.length = fn.ps) (hN : startE fn.N.length ds = ρ) (h : W (evSs (orc T k) fn.body ρ S) fun fl S1 => W (retK fl S1) fun d S' => W (gc S d S') Q) : W (orc T (k + 1) f ds S) Q := by
  have e : orc T (k + 1) f ds S = callF (orc T k) fn ds S := by
    show (match T[f]? with
      | some fn => callF (orc T k) fn ds S
      | none => Res.bad) = _
    rw [hf]
  rw [e]
  exact def_w hl hN h
theorem g_self {d : D} {Q : D → Sto → Prop} (h : Q d S) : W (gc S d S) Q := by
  rw [gc_self, W_ok]
  exact h
end PQ

namespace PQ
open PySem PySem.Spec PyProof.Rows L2
local macro_rules
  | `(tactic| mul_fits) => `(tactic| (repeat (first
    | (with_reducible refine PQ.w_scons ?_)
    | ((with_reducible apply PQ.w_var); (focus (exact rfl)))
    | (with_reducible refine PQ.w_bin ?_)
    | (with_reducible refine PQ.w_call ?_)
    | (with_reducible refine PQ.w_cons ?_)
    | (with_reducible refine PQ.w_nil ?_)
    | (with_reducible refine PQ.w_lit ?_)
    | (with_reducible refine PQ.w_cmp ?_)
    | (with_reducible refine PQ.w_idx ?_)
    | (with_reducible refine PQ.w_set ?_)
    | (with_reducible refine PQ.w_ret ?_)
    | (with_reducible refine PQ.w_ite ?_)
    | (with_reducible refine PQ.w_tv ?_)
    | (with_reducible refine PQ.w_tnot ?_)
    | (with_reducible refine PQ.w_nx ?_)
    | (with_reducible refine PQ.w_rt ?_)
    | (with_reducible refine PQ.w_if_t ?_)
    | (with_reducible refine PQ.w_if_f ?_)
    | (with_reducible refine PQ.w_if_nt ?_)
    | (with_reducible refine PQ.w_if_nf ?_)
    | (with_reducible refine PQ.w_tru_b ?_)
    | (with_reducible refine PQ.w_tru_i ?_)
    | (with_reducible refine PQ.w_tru_t ?_)
    | (with_reducible refine PQ.w_ok ?_)
    | (with_reducible refine PQ.w_snil ?_)
    | (with_reducible refine PQ.w_ex ?_)
    | (with_reducible refine PQ.w_agg ?_)
    | (with_reducible refine PQ.w_fn1 ?_)
    | (with_reducible refine PQ.w_fn2 ?_)
    | (with_reducible refine PQ.w_tup ?_)
    | (with_reducible refine PQ.w_alloc ?_)
    | (with_reducible refine PQ.w_disp ?_)
    | (with_reducible refine PQ.w_e ?_)
    | (with_reducible refine PQ.w_q ?_)
    | (with_reducible refine PQ.w_ir ?_)
    | (with_reducible refine PQ.w_for ?_)
    | (with_reducible refine PQ.w_comp ?_)
    | (with_reducible refine PQ.w_compIf ?_)
    | (with_reducible refine PQ.w_and ?_)
    | (with_reducible refine PQ.w_or ?_)
    | (with_reducible refine PQ.w_not ?_)
    | (with_reducible refine PQ.w_ife ?_)
    | (with_reducible refine PQ.w_slc ?_)
    | (with_reducible refine PQ.w_oN ?_)
    | (with_reducible refine PQ.w_isi ?_)
    | (with_reducible refine PQ.w_app ?_)
    | (with_reducible refine PQ.w_ext ?_)
    | (with_reducible refine PQ.w_pop ?_)
    | (with_reducible refine PQ.w_popAt ?_)
    | (with_reducible refine PQ.w_isN ?_)
    | (with_reducible refine PQ.w_notN ?_)
    | (with_reducible refine PQ.w_inr ?_)
    | (with_reducible refine PQ.w_notInr ?_)
    | (with_reducible refine PQ.w_chn ?_)
    | (with_reducible refine PQ.w_tand ?_)
    | (with_reducible refine PQ.w_tor ?_)
    | (with_reducible refine PQ.w_cat ?_)
    | (with_reducible refine PQ.w_sorted ?_)
    | (with_reducible refine PQ.w_list ?_)
    | (with_reducible refine PQ.w_rev ?_)
    | (with_reducible refine PQ.w_setT ?_)
    | (with_reducible refine PQ.w_par ?_)
    | (with_reducible refine PQ.w_sub ?_)
    | (with_reducible refine PQ.w_bk ?_)
    | (with_reducible refine PQ.w_ct ?_)
    | (with_reducible refine PQ.w_brk ?_)
    | (with_reducible refine PQ.w_cont ?_)
    | (with_reducible refine PQ.w_pass ?_)
    | (with_reducible refine PQ.v_add ?_)
    | (with_reducible refine PQ.v_sub ?_)
    | (with_reducible refine PQ.v_band ?_)
    | (with_reducible refine PQ.v_bor ?_)
    | (with_reducible refine PQ.v_bxor ?_)
    | (with_reducible refine PQ.v_augAdd ?_)
    | (with_reducible refine PQ.v_augSub ?_)
    | (with_reducible refine PQ.v_lt ?_)
    | (with_reducible refine PQ.v_le ?_)
    | (with_reducible refine PQ.v_gt ?_)
    | (with_reducible refine PQ.v_ge ?_)
    | (with_reducible refine PQ.v_eq ?_)
    | (with_reducible refine PQ.v_ne ?_)
    | (with_reducible refine PQ.v_eqS ?_)
    | (with_reducible refine PQ.v_neS ?_)
    | (with_reducible refine PQ.v_eqB ?_)
    | (with_reducible refine PQ.v_intI ?_)
    | (with_reducible refine PQ.v_intB ?_)
    | (with_reducible refine PQ.v_abs ?_)
    | (with_reducible refine PQ.v_gcd ?_)
    | (with_reducible refine PQ.v_min2 ?_)
    | (with_reducible refine PQ.v_max2 ?_)
    | (with_reducible refine PQ.v_slcT ?_)
    | (with_reducible refine PQ.w_bind ?_)
    | (with_reducible refine PQ.r_nx ?_)
    | (with_reducible refine PQ.r_rt ?_)
    | (with_reducible refine PQ.g_self ?_)
    | ((with_reducible apply PQ.w_aug); (focus (exact rfl)))
    | (with_reducible refine PQ.w_neg ?_)
    | (with_reducible refine PQ.w_oS ?_)
    | (with_reducible refine PQ.w_listRg ?_)
    | (with_reducible refine PQ.w_rg ?_)
    | (with_reducible refine PQ.w_augS ?_)
    | ((with_reducible apply PQ.v_mul); (focus (first | assumption | exact .of_left (by decide +kernel) | exact .of_right (by decide +kernel))))
    | ((with_reducible apply PQ.v_fdiv); (focus (first | assumption | exact ⟨by omega, PyProof.noPylong_small (by omega)⟩)))
    | ((with_reducible apply PQ.v_mod); (focus (first | assumption | omega)))
    | ((with_reducible apply PQ.v_pow); (focus (first | assumption | (unfold CPow; decide +kernel) | (unfold CPow; omega))))
    | ((with_reducible apply PQ.v_shl); (focus (first | assumption | (unfold CPow; decide +kernel) | (unfold CPow; omega))))
    | ((with_reducible apply PQ.v_shr); (focus (first | assumption | omega)))
    | ((with_reducible apply PQ.v_idx); (focus (first | exact rfl | assumption)); (focus (first | exact rfl | assumption)))
    | ((with_reducible apply PQ.v_idxT); (focus (first | exact rfl | assumption)))
    | ((with_reducible apply PQ.v_idxF); (focus (first | exact rfl | assumption)))
    | ((with_reducible apply PQ.v_len); (focus (first | exact rfl | assumption)))
    | ((with_reducible apply PQ.v_tuple); (focus (first | exact rfl | assumption)))
    | ((with_reducible apply PQ.v_sum); (focus (first | exact rfl | assumption)); (focus (first | exact rfl | assumption)))
    | ((with_reducible apply PQ.v_all); (focus (first | exact rfl | assumption)); (focus (first | exact rfl | assumption)))
    | ((with_reducible apply PQ.v_any); (focus (first | exact rfl | assumption)); (focus (first | exact rfl | assumption)))
    | ((with_reducible apply PQ.v_slc); (focus (first | exact rfl | assumption)))
    | ((with_reducible apply PQ.v_set); (focus (first | exact rfl | assumption)); (focus (first | exact rfl | assumption)))
    | ((with_reducible apply PQ.w_withL); (focus (first | exact rfl | assumption)))
    | ((with_reducible apply PQ.v_app); (focus (first | exact rfl | assumption)); (focus (first | assumption | exact Nat.lt_of_lt_of_le (Nat.lt_succ_self _) (Nat.le_of_ble_eq_true rfl) | omega)))
    | ((with_reducible apply PQ.v_addT); (focus (first | assumption | exact Nat.le_of_ble_eq_true rfl | omega)))
    | ((with_reducible apply PQ.v_addS); (focus (first | assumption | exact Nat.le_of_ble_eq_true rfl | omega)))
    | ((with_reducible apply PQ.v_addL); (focus (first | exact rfl | assumption)); (focus (first | exact rfl | assumption)); (focus (first | assumption | exact Nat.le_of_ble_eq_true rfl | omega)))
    | ((with_reducible apply PQ.w_tru_r); (focus (first | exact rfl | assumption)))
    | ((with_reducible apply PQ.w_if_T); (focus (exact rfl)))
    | ((with_reducible apply PQ.w_if_F); (focus (exact rfl)))
    | ((with_reducible apply PQ.w_may); (focus (exact rfl)))
    | ((with_reducible refine ⟨_, rfl, ?_⟩))
    | ((with_reducible apply PQ.w_augK); (focus (first | exact rfl | assumption)); (focus (first | exact rfl | assumption)))
    | ((with_reducible refine ⟨_, _, rfl, rfl, ?_, ?_⟩); (focus (first | assumption | (unfold bd62; omega) | (unfold RgOk; omega))))
    | ((with_reducible refine ⟨?_, ?_⟩); (focus (first | assumption | exact Nat.le_of_ble_eq_true rfl | omega))))))
/-! ### the draws: every law has them -/
/-- .. from the place where the number is read -/
def bDraw2 : CSs := (.cons (.augS (.var 0) (.lit (.int 1)) .add (.lit (.int 1)))
  (.cons (.ite (.v (.cmp .ge (.var 3) (.bin .mul (.lit (.int 2)) (.bin .pow (.lit (.int 10)) (.lit (.int 18))))))
  (.cons (.set (.nm 2) (.bin .mod (.fn1 .int (.bin .fdiv (.var 3) (.lit (.int 2)))) (.bin .shl (.lit (.int 1)) (.lit (.int 6000)))))
  (.cons (.sub (.var 0) (.lit (.int 2)) (.bin .fdiv (.var 2) (.var 1)))
  (.cons (.ret (.bin .mod (.fn1 .int (.var 2)) (.var 1)))
  .nil)))
  .nil)
  (.cons (.sub (.var 0) (.lit (.int 3)) (.bin .mod (.fn1 .int (.bin .add (.bin .add (.bin .add (.bin .mul (.idx (.var 0) (.lit (.int 3))) (.lit (.int 48271))) (.bin .mul (.bin .mod (.fn1 .int (.var 3)) (.lit (.int 2147483629))) (.lit (.int 16807)))) (.bin .mul (.idx (.var 0) (.lit (.int 1))) (.lit (.int 69621)))) (.lit (.int 11)))) (.lit (.int 2147483647))))
  (.cons (.ret (.bin .mod (.fn1 .int (.bin .fdiv (.idx (.var 0) (.lit (.int 3))) (.lit (.int 16)))) (.var 1)))
  .nil))))
def bDraw : CSs := (.cons (.ite (.v (.cmp .gt (.idx (.var 0) (.lit (.int 2))) (.lit (.int 0))))
  (.cons (.set (.nm 2) (.idx (.var 0) (.lit (.int 2))))
  (.cons (.sub (.var 0) (.lit (.int 2)) (.bin .fdiv (.var 2) (.var 1)))
  (.cons (.ret (.bin .mod (.fn1 .int (.var 2)) (.var 1)))
  .nil)))
  .nil)
  (.cons (.set (.nm 3) (.lit (.int 0)))
  (.cons (.ite (.v (.cmp .lt (.idx (.var 0) (.lit (.int 1))) (.agg .len (.e (.idx (.var 0) (.lit (.int 0)))))))
  (.cons (.set (.nm 4) (.idx (.idx (.var 0) (.lit (.int 0))) (.idx (.var 0) (.lit (.int 1)))))
  (.cons (.set (.nm 3) (.bin .add (.bin .mul (.lit (.int 2)) (.fn1 .abs (.var 4))) (.fn1 .int (.cmp .lt (.var 4) (.lit (.int 0))))))
  .nil))
  .nil)
  bDraw2)))
/-- the store of a law: the script's ints, the place and the two seeds of the draws; then the law's own -/
structure DS where
  cells : List Int
  p : Int
  r : Int
  s : Int
  p0 : 0 ≤ p
def DS.st (d : DS) (R : Sto) : Sto := .lst (d.cells.map .int) :: .lst [.ref 0, .int d.p, .int d.r, .int d.s] :: R
theorem draw_w {C : Orc} {x : Str} {N : List Str} {d : DS} {R : Sto} {m : Int} {Q : D → Sto → Prop} (hN : N.length = 5) (h1 : 0 < m) (h2 : m < 1073741824) (h : ∀ (y : Int) (d' : DS), 0 ≤ y → y < m → Q (.int y) (d'.st R)) :
    W (callF C ⟨x, N, 2, bDraw⟩ [.ref 1, .int m] (d.st R)) Q := by
  have fd : ∀ i, FDivOk i m := fun i => ⟨by omega, PyProof.noPylong_small (by omega)⟩
  have fd2 : ∀ i, FDivOk i 2 := fun i => ⟨by omega, PyProof.noPylong_small (by omega)⟩
  have fd16 : ∀ i, FDivOk i 16 := fun i => ⟨by omega, PyProof.noPylong_small (by omega)⟩
  have q1 : ∀ i : Int, 0 ≤ i.fmod m := fun i => Int.fmod_nonneg_of_pos i h1
  have q2 : ∀ i : Int, i.fmod m < m := fun i => Int.fmod_lt_of_pos i h1
  have m1 : ∀ i, IntMulOk 2 i := fun i => .of_left (by decide +kernel)
  have m2 : ∀ i, IntMulOk i 48271 := fun i => .of_right (by decide +kernel)
  have m3 : ∀ i, IntMulOk i 16807 := fun i => .of_right (by decide +kernel)
  have m4 : ∀ i, IntMulOk i 69621 := fun i => .of_right (by decide +kernel)
  have c1 : CPow 10 18 := by unfold CPow; decide +kernel
  have c2 : CPow 1 6000 := by unfold CPow; decide +kernel
  have hm : m ≠ 0 := by omega
  have hs : (1 * 2 ^ Int.toNat 6000 : Int) ≠ 0 := by
    rw [Int.one_mul]
    exact Int.ne_of_gt (Int.pow_pos (by decide))
  obtain ⟨cells, p, r, s, p0⟩ := d
  refine def_w (ρ := [some (.ref 1), some (.int m), none, none, none]) rfl (by rw [hN]; rfl) ?_
  simp only [bDraw, DS.st]
  mul_fits
  refine w_ifd (fun k => ?_) fun k => ?_
  · mul_fits
    rw [gc_same (by simp)]
    mul_fits
    exact h _ ⟨cells, p, _, s, p0⟩ (q1 _) (q2 _)
  have tail : ∀ (z : Int) (o : Option D), W (evSs C bDraw2 [some (.ref 1), some (.int m), none, some (.int z), o] (.lst (cells.map .int) :: .lst [.ref 0, .int p, .int r, .int s] :: R)) fun fl S' => W (retK fl S') fun d S'' => W (gc (.lst (cells.map .int) :: .lst [.ref 0, .int p, .int r, .int s] :: R) d S'') Q := by
    intro z o
    simp only [bDraw2]
    mul_fits
    refine w_ifd (fun k => ?_) fun k => ?_
    · mul_fits
      rw [gc_same (by simp)]
      mul_fits
      exact h _ ⟨cells, p + 1, _, s, by omega⟩ (q1 _) (q2 _)
    · mul_fits
      rw [gc_same (by simp)]
      mul_fits
      exact h _ ⟨cells, p + 1, r, _, by omega⟩ (q1 _) (q2 _)
  mul_fits
  refine w_ifd (fun k => ?_) fun k => ?_
  · have hl : p.toNat < cells.length := by rw [List.length_map] at k; omega
    have hc : atI (List.map D.int cells) p = some (.int (cells[p.toNat])) := by
      unfold atI ixN
      rw [if_pos p0, if_pos k]
      simp [hl]
    mul_fits
    exact tail _ _
  · mul_fits
    exact tail _ _
theorem gc_out {S S' : Sto} {d : D} (h : ¬below S.length d) : gc S d S' = .ok d S' := by
  unfold gc
  rw [if_neg fun z => h z.1]
def bBegin : CSs := (.cons (.ret (.alloc (.disp (.cons (.alloc (.comp [1] (.nm 1) (.r (.e (.var 0))) (.fn1 .int (.var 1)))) (.cons (.lit (.int 0)) (.cons (.lit (.int 0)) (.cons (.lit (.int 5)) .nil)))))))
  .nil)
theorem begin_w {C : Orc} {x : Str} {N : List Str} {ns : List Int} {Q : D → Sto → Prop} (hN : N.length = 2) (hl : ns.length ≤ 63) (h : Q (.ref 1) (DS.st ⟨ns, 0, 0, 5, by decide⟩ [])) : W (callF C ⟨x, N, 1, bBegin⟩ [.fix (ns.map .int)] []) Q := by
  refine def_w (ρ := [some (.fix (ns.map .int)), none]) rfl (by rw [hN]; rfl) ?_
  simp only [bBegin]
  mul_fits
  refine ⟨by rw [List.length_map]; exact Nat.le_trans hl (Nat.le_of_ble_eq_true rfl), ?_⟩
  refine loopQ_w (fun ds r S => S = [] ∧ r ++ ds = ns.map .int) (fun d ds r S i => ⟨trivial, ?_⟩) (fun r S i => ⟨trivial, ?_⟩) _ _ ⟨rfl, rfl⟩
  · obtain ⟨rfl, i⟩ := i
    have : d ∈ ns.map D.int := by rw [← i]; simp
    obtain ⟨j, _, rfl⟩ := List.mem_map.mp this
    mul_fits
    exact ⟨rfl, by rw [← i]; simp⟩
  · obtain ⟨rfl, i⟩ := i
    rw [List.append_nil] at i
    subst i
    mul_fits
    rw [gc_out (by simp [below])]
    mul_fits
    exact h
end PQ

/-! The head's facts, with the module's values. -/
namespace PQ
open PySem PySem.Spec PyProof.Rows L2
mutual
def dB (K : PySem.W.Frag) : D → Value → Bool
  | .non, .none => true
  | .bl b, .bool c => b == c
  | .int i, .int j _ => decide (i = j)
  | .str x, .str y _ => decide (x = y)
  | .tup ds, .ref a => (match K.lookup a with
    | some ⟨.type c, none, .seq its _, _⟩ => decide (c = "tuple") && (decide (its.size ≤ sizeLine) && (decide (ds.length ≤ sizeLine) && dsB K ds its.toList))
    | _ => false)
  | _, _ => false
def dsB (K : PySem.W.Frag) : List D → List Value → Bool
  | [], [] => true
  | d :: ds, u :: us => dB K d u && dsB K ds us
  | _, _ => false
end
mutual
theorem dB_ok {K : PySem.W.Frag} {P : Program} {w : World} : ∀ (d : D) (u : Value), dB K d u = true → ∃ v, RelV v u ∧ ∀ μ H, Rp (Fg.mk K P w) μ H d v
  | .non, .none, _ => ⟨.non, rfl, fun _ _ => rfl⟩
  | .bl b, .bool c, h => ⟨.bl b, by
    have : b = c := by simpa [dB] using h
    subst this
    rfl, fun _ _ => rfl⟩
  | .int i, .int j t, h => ⟨.int i, ⟨t, by
    have : i = j := by simpa [dB] using h
    rw [this]⟩, fun _ _ => rfl⟩
  | .str x, .str y t, h => ⟨.str x, ⟨t, by
    have : x = y := by simpa [dB] using h
    rw [this]⟩, fun _ _ => rfl⟩
  | .tup ds, .ref a, h => by
    unfold dB at h
    split at h
    · rename_i c its n sl e
      obtain ⟨h1, h⟩ := Bool.and_eq_true_iff.mp h
      obtain ⟨h2, h⟩ := Bool.and_eq_true_iff.mp h
      obtain ⟨h3, h⟩ := Bool.and_eq_true_iff.mp h
      obtain ⟨vs, q1, q2⟩ := dsB_ok ds its.toList h
      exact ⟨.ref a, rfl, fun μ H => ⟨a, vs, rfl, .inr ⟨_, its, n, e, congrArg Value.type (of_decide_eq_true h1), rfl, rfl, of_decide_eq_true h2, q1⟩, q2 μ H, of_decide_eq_true h3⟩⟩
    · cases h
theorem dsB_ok {K : PySem.W.Frag} {P : Program} {w : World} : ∀ (ds : List D) (us : List Value), dsB K ds us = true → ∃ vs, Vals vs us ∧ ∀ μ H, RpA (Fg.mk K P w) μ H ds vs
  | [], [], _ => ⟨[], .nil, fun _ _ => rfl⟩
  | d :: ds, u :: us, h => by
    obtain ⟨h1, h2⟩ := Bool.and_eq_true_iff.mp h
    obtain ⟨v, a1, a2⟩ := dB_ok d u h1
    obtain ⟨vs, b1, b2⟩ := dsB_ok ds us h2
    exact ⟨v :: vs, .cons a1 b1, fun μ H => .cons (a2 μ H) (b2 μ H)⟩
end
def gB (K : PySem.W.Frag) (q : Str × Gv) : Bool := match q.2 with
  | .con d => (match PySem.W.nsIn K mainGlobals q.1 with
    | some (some u) => dB K d u
    | _ => false)
  | .fn id => He.eqO (PySem.W.nsIn K mainGlobals q.1) (some (some (.builtin id)))
theorem gB_ok {K : PySem.W.Frag} {P : Program} {w : World} {h : Heap} {mg : Str → Option Value} (X : K.In h) (G : h.Ns mainGlobals mg) {Gs : List (Str × Gv)} (c : Gs.all (gB K) = true) : ∀ x g, (x, g) ∈ Gs → GvOk (Fg.mk K P w) mg x g := fun x g hx => by
  have c1 := List.all_eq_true.mp c _ hx
  cases g with
  | con d =>
    have c1 : (match PySem.W.nsIn K mainGlobals x with
      | some (some u) => dB K d u
      | _ => false) = true := c1
    split at c1
    · rename_i u e
      obtain ⟨v, h1, h2⟩ := dB_ok d u c1
      exact ⟨v, u, PySem.W.mg_of X G e, h1, h2⟩
    · cases c1
  | fn id => exact PySem.W.mg_of X G (He.eqO_ok c1)
def obP (n : Nat) (fa : List He.Fa) (fn : List He.DefD) (Gs : List (Str × Gv)) (g : Addr → Option Obj) : He.AlD × Bool := (He.obsDG n fa fn g, Gs.all (gB (He.frG g (He.asD g n))))
def hookP (n : Nat) (fa : List He.Fa) (fn : List He.DefD) (Gs : List (Str × Gv)) : PySem.W.Hook where
  α := He.AlD × Bool
  obs := fun s => obP n fa fn Gs s.heap.get?
  val := fun _ => (He.valD fn, true)
  says := fun _ h => ∃ K : PySem.W.Frag, K.In h ∧ He.SaysD fa fn K ∧ Gs.all (gB K) = true
  of := fun _ _ e => ⟨_, He.frG_in, congrArg (fun z : He.AlD × Bool => z.1) e, congrArg (fun z : He.AlD × Bool => z.2) e⟩
  keeps := fun _ _ _ ⟨K, hK, c⟩ k => ⟨K, PySem.W.Frag.In.keeps hK k, c⟩
theorem obP_eq {n : Nat} {fa : List He.Fa} {fn : List He.DefD} {Gs : List (Str × Gv)} {g : Addr → Option Obj} {s : Shared} (h : ∀ a, g a = s.heap.get? a) : obP n fa fn Gs g = (hookP n fa fn Gs).obs s := by
  have e : g = s.heap.get? := funext h
  rw [e] <;> rfl
end PQ

namespace PQ
open PySem PySem.Spec PyProof.Rows L2
theorem le64 {n : Nat} (h : n ≤ 64) : n ≤ sizeLine := Nat.le_trans h (Nat.le_of_ble_eq_true rfl)
end PQ

/-! Helps that more than one law asks for. -/
namespace PQ
open PySem PySem.Spec PyProof.Rows L2
theorem while_w {C : Orc} {t : CT} {b : CSs} {Q : Fl → Sto → Prop} (I : Nat → En → Sto → Prop)
    (h : ∀ n ρ S, I n ρ S → W (evT C t ρ S) fun c S1 => (c = true → ∃ m, n = m + 1 ∧ W (evSs C b ρ S1) fun fl S2 => ∃ ρ', (fl = .nx ρ' ∨ fl = .ct ρ') ∧ I m ρ' S2) ∧ (c = false → Q (.nx ρ) S1)) : ∀ (n fuel : Nat) ρ S, n < fuel → I n ρ S → W (whileS (evT C t) (evSs C b) fuel ρ S) Q
  | n, 0, _, _, hf, _ => by omega
  | n, fuel + 1, ρ, S, hf, hi => by
    rw [whileS, W_bind]
    refine W_mono (h n ρ S hi) fun c S1 hc => ?_
    cases c with
    | false =>
      rw [if_neg (by decide), W_ok]
      exact hc.2 rfl
    | true =>
      obtain ⟨m, rfl, hb⟩ := hc.1 rfl
      rw [if_pos rfl, W_bind]
      refine W_mono hb fun fl S2 ⟨ρ', e, k⟩ => ?_
      rcases e with e | e <;> subst e <;> exact while_w I h m fuel ρ' S2 (by omega) k
theorem get_end (S : Sto) (o : Ob) : (S ++ [o])[S.length]? = some o := by simp
theorem set_end (S : Sto) (o p : Ob) : (S ++ [o]).set S.length p = S ++ [p] := by simp
theorem get_pre {S R : Sto} {a : Nat} {o : Ob} (h : S[a]? = some o) : (S ++ R)[a]? = some o := by
  rw [List.getElem?_append_left (List.getElem?_eq_some_iff.mp h).1]
  exact h
theorem ints_map (ns : List Int) : intsOf (ns.map D.int) = some ns := by
  induction ns with
  | nil => rfl
  | cons x xs ih => simp [intsOf, ih]
theorem at_last (l : List D) (d : D) : atI (l ++ [d]) (-1) = some d := by
  unfold atI ixN
  rw [if_neg (by omega), if_pos (by simp; omega)]
  have e : ((-1 : Int) + ((l ++ [d]).length : Int)).toNat = l.length := by simp; omega
  rw [e]
  simp
theorem sum_nn : ∀ ns : List Int, (∀ n ∈ ns, 0 ≤ n) → 0 ≤ ns.sum
  | [], _ => by simp
  | n :: ns, h => by
    have := h n (by simp)
    have := sum_nn ns fun x hx => h x (by simp [hx])
    rw [List.sum_cons]
    omega
theorem rgD_get {i j : Int} {d : D} (h : d ∈ rgD i j) : ∃ x, d = .int x ∧ i ≤ x ∧ x < j := by
  obtain ⟨q, hq, rfl⟩ := List.mem_map.mp h
  rw [List.mem_range] at hq
  exact ⟨_, rfl, by omega, by omega⟩
def Grown (S S' : Sto) : Prop := ∃ g, S' = S ++ g
theorem bools_map (bs : List Bool) : boolsOf (bs.map D.bl) = some bs := by
  induction bs with
  | nil => rfl
  | cons x xs ih => simp [boolsOf, ih]
theorem le_size {n : Nat} (h : n ≤ 100000) : n ≤ sizeLine := Nat.le_trans h (Nat.le_of_ble_eq_true rfl)
theorem gc_st {d d' : DS} {R g : Sto} {e : D} {Q : D → Sto → Prop} (h1 : below (R.length + 2) e → Q e (d'.st R)) (h2 : Q e (d'.st (R ++ g))) : W (gc (d.st R) e (d'.st (R ++ g))) Q := by
  unfold gc
  split
  · rename_i sf
    rw [W_ok]
    have : (d'.st (R ++ g)).take (d.st R).length = d'.st R := by
      show List.take (R.length + 2) (_ :: _ :: (R ++ g)) = _
      rw [List.take_succ_cons, List.take_succ_cons, List.take_left' rfl]
      rfl
    rw [this]
    exact h1 sf.1
  · rw [W_ok]
    exact h2
theorem st_len {d : DS} {R : Sto} : (d.st R).length = R.length + 2 := rfl
theorem st_app {d : DS} {R g : Sto} : d.st R ++ g = d.st (R ++ g) := rfl
theorem st_get {d : DS} {R : Sto} {b : Nat} : (d.st R)[b + 2]? = R[b]? := rfl
theorem w_es {C : Orc} {es : CEs} {ρ : En} {S S1 : Sto} {ds : List D} {Q : List D → Sto → Prop} (he : evEs C es ρ S = .ok ds S1) (h : Q ds S1) : W (evEs C es ρ S) Q := by
  rw [he, W_ok]
  exact h
def Good1 (fl : Fl) (S : Sto) : Prop := W (retK fl S) fun d S' => W (gc [] d S') fun e _ => e = .bl true
theorem good1 {S : Sto} : Good1 (.rt (.bl true)) S := by
  refine r_rt ?_
  rw [show S = [] ++ S from rfl, gc_app (by simp [below])]
  exact w_ok rfl
theorem st_end {d : DS} {R : Sto} {o : Ob} : (d.st (R ++ [o]))[R.length + 2]? = some o := by rw [st_get]; exact get_end R o
theorem fdiv_small {c : Int} (h0 : c ≠ 0) (h : c.natAbs < 2 ^ 8000) (n : Int) : FDivOk n c := ⟨h0, PyProof.noPylong_of_log2 (by
  have h1 : c.natAbs ≠ 0 := by omega
  have := (Nat.log2_lt h1).mpr h
  omega)⟩
theorem mul_bd {a b : Int} {m n : Nat} (ha : a.natAbs < 2 ^ m) (hb : b.natAbs < 2 ^ n) : (a * b).natAbs < 2 ^ (m + n) := by
  rw [Int.natAbs_mul, Nat.pow_add]
  exact Nat.mul_lt_mul_of_lt_of_le ha (Nat.le_of_lt hb) (Nat.two_pow_pos _)
theorem bd_mono {a : Int} {m n : Nat} (h : a.natAbs < 2 ^ m) (hmn : m ≤ n) : a.natAbs < 2 ^ n := Nat.lt_of_lt_of_le h (Nat.pow_le_pow_right (by decide) hmn)
theorem add_bd {a b : Int} {m : Nat} (ha : a.natAbs < 2 ^ m) (hb : b.natAbs < 2 ^ m) : (a + b).natAbs < 2 ^ (m + 1) := by
  rw [Nat.pow_succ]
  omega
theorem sub_bd {a b : Int} {m : Nat} (ha : a.natAbs < 2 ^ m) (hb : b.natAbs < 2 ^ m) : (a - b).natAbs < 2 ^ (m + 1) := by
  rw [Nat.pow_succ]
  omega
theorem mul_okb {a b : Int} {m n : Nat} (ha : a.natAbs < 2 ^ m) (hb : b.natAbs < 2 ^ n) (h : m + n ≤ 134217728) : IntMulOk a b := (mulx_ok ha hb h).ok
section
variable {S : Sto} {Q : D → Sto → Prop}
theorem v_idxS {z : Str} {i : Int} {c : Nat} (k : z.length ≤ sizeLine) (k2 : atI z.cps.toList i = some c) (h : Q (.str ⟨#[c]⟩) S) : W (idxD (.str z) (.int i) S) Q := by
  simpa [idxD, k, k2] using h
theorem v_mulL {i : Nat} {n : Int} {a : List D} (k1 : S[i]? = some (.lst a)) (k2 : -(2 ^ 63) ≤ n ∧ n < 2 ^ 63 ∧ a.length * n.toNat ≤ sizeLine) (h : Q (.ref S.length) (S ++ [.lst (List.replicate n.toNat a).flatten])) : W (binD .mul (.ref i) (.int n) S) Q := by
  simp only [binD, k1, W_ask, W_ok]
  exact ⟨k2, h⟩
theorem v_ext {a : Nat} {ds es : List D} {r : RV} (k1 : S[a]? = some (.lst ds)) (k2 : trOf S r = some es) (k3 : ds.length + es.length ≤ sizeLine) (h : Q .non (S.set a (.lst (ds ++ es)))) : W (extD (.ref a) r S) Q := by
  simp only [extD, withL, k1, k2, may_some, if_pos k3, W_ok]
  exact h
theorem v_pop {a : Nat} {ds : List D} {d : D} (k1 : S[a]? = some (.lst ds)) (k2 : ds[ds.length - 1]? = some d) (h : Q d (S.set a (.lst ds.dropLast))) : W (popD (.ref a) S) Q := by
  simp only [popD, withL, k1, k2, may_some, W_ok]
  exact h
theorem v_popAt {a : Nat} {ds : List D} {i : Int} {k : Nat} {d : D} (k1 : S[a]? = some (.lst ds)) (k0 : -(2 ^ 63) ≤ i ∧ i < 2 ^ 63) (k2 : seqIndex? i ds.length = some k) (k3 : ds[k]? = some d) (h : Q d (S.set a (.lst (ds.eraseIdx k)))) : W (popAtD (.ref a) (.int i) S) Q := by
  simp only [popAtD, withL, k1, if_pos k0, k2, k3, may_some, W_ok]
  exact h
end
end PQ

/-! A walk that may go back early. -/
namespace PQ
open PySem PySem.Spec PyProof.Rows L2
theorem loopS_r {C : Sto → Prop} {f : D → En → Sto → Res Fl} {Q : Fl → Sto → Prop} (I : List D → En → Sto → Prop)
    (h : ∀ d ds ρ S, I (d :: ds) ρ S → C S ∧ W (f d ρ S) fun fl S' => match fl with
      | .nx ρ' => I ds ρ' S'
      | .ct ρ' => I ds ρ' S'
      | .bk ρ' => Q (.nx ρ') S'
      | .rt x => Q (.rt x) S')
    (h0 : ∀ ρ S, I [] ρ S → C S ∧ Q (.nx ρ) S) : ∀ ds ρ S, I ds ρ S → W (loopS C f ds ρ S) Q
  | [], ρ, S, i => by
    rw [loopS, W_ask, W_ok]
    exact h0 ρ S i
  | d :: ds, ρ, S, i => by
    rw [loopS, W_ask, W_bind]
    obtain ⟨k1, k2⟩ := h d ds ρ S i
    refine ⟨k1, W_mono k2 fun fl S' k => ?_⟩
    cases fl with
    | nx ρ' => exact loopS_r I h h0 ds ρ' S' k
    | ct ρ' => exact loopS_r I h h0 ds ρ' S' k
    | bk ρ' => exact (W_ok (Q := Q)).symm ▸ k
    | rt x => exact (W_ok (Q := Q)).symm ▸ k
end PQ

/-! Numbers and tuples alone; more helps. -/
namespace PQ
open PySem PySem.Spec PyProof.Rows L2
theorem v_lenS {S : Sto} {z : Str} {Q : D → Sto → Prop} (k : z.length ≤ sizeLine) (h : Q (.int z.length) S) : W (aggD .len (.val (.str z)) S) Q := by
  have e : aggD .len (.val (.str z)) S = .ok (.int z.length) S := by
    show (if z.length ≤ sizeLine then _ else _) = _
    rw [if_pos k]
  rw [e, W_ok]
  exact h
theorem rgD0 (n : Nat) : rgD 0 (n : Int) = (List.range n).map fun (k : Nat) => D.int (k : Int) := by simp [rgD]
abbrev natD (n : Nat) : D := .int (n : Int)
theorem at_map {α : Type} (f : α → D) (l : List α) (k : Nat) (h : k < l.length) : atI (l.map f) (k : Int) = some (f l[k]) := by
  unfold atI ixN
  rw [if_pos (by omega), if_pos (by simp; omega)]
  simp [h]
def gI (l : List Int) (k : Nat) : Int := l.getD k 0
theorem at_ints (l : List Int) (k : Nat) (h : k < l.length) : atI (l.map D.int) (k : Int) = some (.int (gI l k)) := by
  rw [at_map _ _ _ h]
  simp [gI, h]
theorem ix_nat {n k : Nat} (h : k < n) : ixN n (k : Int) = some k := by
  unfold ixN
  rw [if_pos (by omega), if_pos (by omega)]
  simp
theorem at_nat (l : List D) (k : Nat) (h : k < l.length) : atI l (k : Int) = some l[k] := by
  unfold atI
  rw [ix_nat h]
  simp [h]
theorem get_mid (S R : Sto) (o : Ob) : (S ++ [o] ++ R)[S.length]? = some o := by simp
theorem set_mid (S R : Sto) (o p : Ob) : (S ++ [o] ++ R).set S.length p = S ++ [p] ++ R := by
  rw [List.set_append_left _ _ (by simp), set_end]
theorem get_far {S R : Sto} {o p : Ob} {b : Nat} {q : Ob} (h : S.length < b) (e : (S ++ [o] ++ R)[b]? = some q) : (S ++ [p] ++ R)[b]? = some q := by
  rw [List.getElem?_append_right (by simp; omega)] at e ⊢
  simpa using e
/-- numbers and tuples of such -/
inductive It : D → Prop
  | int (i : Int) : It (.int i)
  | tup (ds : List D) (h : ∀ d ∈ ds, It d) : It (.tup ds)
theorem belows_iff {n : Nat} : ∀ {ds : List D}, belows n ds ↔ ∀ d ∈ ds, below n d
  | [] => by simp [belows]
  | d :: ds => by simp [belows, belows_iff (ds := ds)]
theorem it_below {n : Nat} {d : D} (h : It d) : below n d := by
  induction h with
  | int i => simp [PQ.below]
  | tup ds h ih =>
    show belows n ds
    exact belows_iff.mpr ih
theorem it_ints (l : List Int) : It (.tup (l.map D.int)) := .tup _ fun d hd => by
  obtain ⟨i, _, rfl⟩ := List.mem_map.mp hd
  exact .int i
end PQ

/-! Walks over rows of things of one kind. -/
namespace PQ
open PySem PySem.Spec PyProof.Rows L2
def All2 {α β : Type} (P : α → β → Prop) : List α → List β → Prop
  | [], [] => True
  | a :: as, b :: bs => P a b ∧ All2 P as bs
  | _, _ => False
section
variable {α β : Type} {P : α → β → Prop}
theorem All2.len : ∀ {l : List α} {m : List β}, All2 P l m → m.length = l.length
  | [], [], _ => rfl
  | _ :: as, _ :: bs, h => by rw [List.length_cons, List.length_cons, All2.len h.2]
  | [], _ :: _, h => h.elim
  | _ :: _, [], h => h.elim
theorem All2.imp {P' : α → β → Prop} (k : ∀ a b, P a b → P' a b) : ∀ {l : List α} {m : List β}, All2 P l m → All2 P' l m
  | [], [], _ => trivial
  | _ :: as, _ :: bs, h => ⟨k _ _ h.1, All2.imp k h.2⟩
  | [], _ :: _, h => h.elim
  | _ :: _, [], h => h.elim
theorem All2.mem : ∀ {l : List α} {m : List β}, All2 P l m → ∀ b ∈ m, ∃ a ∈ l, P a b
  | [], [], _, _, hb => nomatch hb
  | a :: as, b :: bs, h, x, hx => by
    rcases List.mem_cons.mp hx with rfl | hx
    · exact ⟨a, List.mem_cons_self, h.1⟩
    · obtain ⟨y, h1, h2⟩ := All2.mem h.2 x hx
      exact ⟨y, List.mem_cons_of_mem _ h1, h2⟩
  | [], _ :: _, h, _, _ => h.elim
  | _ :: _, [], h, _, _ => h.elim
theorem All2.map {γ : Type} {f : α → γ} {g : β → γ} : ∀ {l : List α} {m : List β}, All2 (fun a b => g b = f a) l m → m.map g = l.map f
  | [], [], _ => rfl
  | _ :: as, _ :: bs, h => by rw [List.map_cons, List.map_cons, h.1, All2.map h.2]
  | [], _ :: _, h => h.elim
  | _ :: _, [], h => h.elim
variable {C : Sto → Prop} {f : D → Sto → Res (Option D)} {Q : List D → Sto → Prop}
theorem loopQ_e (enc : α → D) (e : β → D) (P : α → β → Prop) (I : Sto → Prop) (l : List α) (h : ∀ x ∈ l, ∀ S, I S → C S ∧ W (f (enc x) S) fun o S' => ∃ y, o = some (e y) ∧ I S' ∧ P x y) (q : ∀ ys S, All2 P l ys → I S → C S ∧ Q (ys.map e) S) (S : Sto) (i : I S) : W (loopQ C f (l.map enc) S) Q := by
  induction l generalizing S Q with
  | nil =>
    rw [List.map_nil, loopQ, W_ask, W_ok]
    exact q [] S trivial i
  | cons x l ih =>
    rw [List.map_cons, loopQ, W_ask, W_bind]
    obtain ⟨k1, k2⟩ := h x List.mem_cons_self S i
    refine ⟨k1, W_mono k2 fun o S' ⟨y, eo, i', p⟩ => ?_⟩
    subst eo
    rw [W_bind]
    refine ih (fun z hz => h z (List.mem_cons_of_mem _ hz)) (Q := fun r S2 => W (.ok (e y :: r) S2) Q) (fun ys S2 a i2 => ?_) S' i'
    obtain ⟨c1, c2⟩ := q (y :: ys) S2 ⟨p, a⟩ i2
    exact ⟨c1, (W_ok (Q := Q)).symm ▸ c2⟩
theorem loopQ_m (enc : α → D) (g : α → D) (I : Sto → Prop) (l : List α) (h : ∀ x ∈ l, ∀ S, I S → C S ∧ W (f (enc x) S) fun o S' => o = some (g x) ∧ I S') (q : ∀ S, I S → C S ∧ Q (l.map g) S) (S : Sto) (i : I S) : W (loopQ C f (l.map enc) S) Q := by
  refine loopQ_e enc (fun d : D => d) (fun a b => b = g a) I l (fun x hx S i => ⟨(h x hx S i).1, W_mono (h x hx S i).2 fun o S' ⟨e1, e2⟩ => ⟨g x, e1, e2, rfl⟩⟩) (fun ys S a i => ?_) S i
  have := All2.map (f := g) (g := fun d : D => d) a
  rw [this]
  exact q S i
theorem loopQ_f (enc : α → D) (p : α → Bool) (g : α → D) (I : Sto → Prop) (l : List α) (h : ∀ x ∈ l, ∀ S, I S → C S ∧ W (f (enc x) S) fun o S' => o = (if p x = true then some (g x) else none) ∧ I S') (q : ∀ S, I S → C S ∧ Q ((l.filter p).map g) S) (S : Sto) (i : I S) : W (loopQ C f (l.map enc) S) Q := by
  induction l generalizing S Q with
  | nil =>
    rw [List.map_nil, loopQ, W_ask, W_ok]
    exact q S i
  | cons x l ih =>
    rw [List.map_cons, loopQ, W_ask, W_bind]
    obtain ⟨k1, k2⟩ := h x List.mem_cons_self S i
    refine ⟨k1, W_mono k2 fun o S' ⟨eo, i'⟩ => ?_⟩
    subst eo
    rw [W_bind]
    refine ih (fun z hz => h z (List.mem_cons_of_mem _ hz)) (Q := fun r S2 => W (.ok (match (if p x = true then some (g x) else none) with | some y => y :: r | none => r) S2) Q) (fun S2 i2 => ?_) S' i'
    obtain ⟨c1, c2⟩ := q S2 i2
    refine ⟨c1, (W_ok (Q := Q)).symm ▸ ?_⟩
    rw [List.filter_cons] at c2
    by_cases hp : p x = true
    · rw [if_pos hp] at c2 ⊢
      exact c2
    · rw [if_neg hp] at c2 ⊢
      exact c2
end
section
variable {α : Type} {C : Sto → Prop} {f : D → En → Sto → Res Fl} {Q : Fl → Sto → Prop}
theorem loopS_e (enc : α → D) (I : List α → En → Sto → Prop)
    (h : ∀ x r ρ S, I (x :: r) ρ S → C S ∧ W (f (enc x) ρ S) fun fl S' => ∃ ρ', (fl = .nx ρ' ∨ fl = .ct ρ') ∧ I r ρ' S')
    (h0 : ∀ ρ S, I [] ρ S → C S ∧ Q (.nx ρ) S) (l : List α) (ρ : En) (S : Sto) (i : I l ρ S) : W (loopS C f (l.map enc) ρ S) Q := by
  refine loopS_w (fun ds ρ S => ∃ r : List α, ds = r.map enc ∧ I r ρ S) ?_ ?_ _ _ _ ⟨l, rfl, i⟩
  · rintro d ds ρ S ⟨r, e, i⟩
    cases r with
    | nil => exact absurd e (by simp)
    | cons x r =>
    rw [List.map_cons, List.cons.injEq] at e
    obtain ⟨rfl, rfl⟩ := e
    obtain ⟨c, w⟩ := h x r ρ S i
    exact ⟨c, W_mono w fun fl S' ⟨ρ', e, i'⟩ => ⟨ρ', e, r, rfl, i'⟩⟩
  · rintro ρ S ⟨r, e, i⟩
    cases r with
    | cons x r => exact absurd e (by simp)
    | nil => exact h0 ρ S i
/-- a walk that may go back early -/
theorem loopS_re (enc : α → D) (I : List α → En → Sto → Prop)
    (h : ∀ x r ρ S, I (x :: r) ρ S → C S ∧ W (f (enc x) ρ S) fun fl S' => match fl with
      | .nx ρ' => I r ρ' S'
      | .ct ρ' => I r ρ' S'
      | .bk ρ' => Q (.nx ρ') S'
      | .rt x => Q (.rt x) S')
    (h0 : ∀ ρ S, I [] ρ S → C S ∧ Q (.nx ρ) S) (l : List α) (ρ : En) (S : Sto) (i : I l ρ S) : W (loopS C f (l.map enc) ρ S) Q := by
  refine loopS_r (fun ds ρ S => ∃ r : List α, ds = r.map enc ∧ I r ρ S) ?_ ?_ _ _ _ ⟨l, rfl, i⟩
  · rintro d ds ρ S ⟨r, e, i⟩
    cases r with
    | nil => exact absurd e (by simp)
    | cons x r =>
    rw [List.map_cons, List.cons.injEq] at e
    obtain ⟨rfl, rfl⟩ := e
    obtain ⟨c, w⟩ := h x r ρ S i
    refine ⟨c, W_mono w fun fl S' k => ?_⟩
    cases fl with
    | nx ρ' => exact ⟨r, rfl, k⟩
    | ct ρ' => exact ⟨r, rfl, k⟩
    | bk ρ' => exact k
    | rt x => exact k
  · rintro ρ S ⟨r, e, i⟩
    cases r with
    | cons x r => exact absurd e (by simp)
    | nil => exact h0 ρ S i
end
theorem rgD_nat (i j : Nat) (h : i ≤ j) : rgD (i : Int) (j : Int) = (List.range' i (j - i)).map natD := by
  have e : ((j : Int) - (i : Int)).toNat = j - i := by omega
  unfold rgD
  rw [e, List.range'_eq_map_range, List.map_map]
  exact List.map_congr_left fun k _ => by simp [natD]
theorem rgdD_nat (n : Nat) : rgdD ((n : Int) - 1) (-1) = (List.range n).reverse.map natD := by
  have e : ((n : Int) - 1 - -1).toNat = n := by omega
  unfold rgdD
  rw [e]
  refine List.ext_getElem (by simp) fun k h1 h2 => ?_
  simp only [List.length_map, List.length_range] at h1
  simp only [List.getElem_map, List.getElem_range, List.getElem_reverse, List.length_range, natD]
  congr 1
  omega
/-- no number of the store in it -/
theorem below_mono {m n : Nat} (h : m ≤ n) : ∀ d, below m d → below n d
  | .non, _ => trivial
  | .bl _, _ => trivial
  | .int _, _ => trivial
  | .str _, _ => trivial
  | .tup ds, k => all ds k
  | .fix ds, k => all ds k
  | .ref i, k => Nat.lt_of_lt_of_le (show i < m from k) h
where
  all : ∀ ds, belows m ds → belows n ds
    | [], _ => trivial
    | d :: ds, k => ⟨below_mono h d k.1, all ds k.2⟩
abbrev Pd (d : D) : Prop := below 0 d
theorem Pd.b {d : D} (h : Pd d) (n : Nat) : below n d := below_mono (Nat.zero_le n) d h
theorem pd_tup {l : List D} : Pd (.tup l) ↔ ∀ d ∈ l, Pd d := belows_iff
theorem pd_map {α : Type} {l : List α} {f : α → D} (h : ∀ x ∈ l, Pd (f x)) : Pd (.tup (l.map f)) := pd_tup.mpr fun d hd => by
  obtain ⟨x, hx, rfl⟩ := List.mem_map.mp hd
  exact h x hx
end PQ

/-! Lists of the store, walked or asked. -/
namespace PQ
open PySem PySem.Spec PyProof.Rows L2
section
variable {α : Type} {S : Sto} {a : Nat} {ds : List D}
theorem ls_lst (k : S[a]? = some (.lst ds)) : lsOf S (.val (.ref a)) = some ds := by simp only [lsOf, k]
theorem sq_lst (k : S[a]? = some (.lst ds)) : sqOf S (.val (.ref a)) = some ds := ls_lst k
theorem tr_lst (k : S[a]? = some (.lst ds)) : trOf S (.val (.ref a)) = some ds := by simp only [trOf, k]
theorem lst_lst (k : S[a]? = some (.lst ds)) : lstOf S (.val (.ref a)) = some ds := sq_lst k
theorem it_lst (k : S[a]? = some (.lst ds)) : itOf (.val (.ref a)) S = some ⟨ds, some a⟩ := by simp only [itOf, sq_lst k, Option.map_some]
theorem w_mayI {f : Itv → Res α} {Q : α → Sto → Prop} (k : S[a]? = some (.lst ds)) (h : W (f ⟨ds, some a⟩) Q) : W (may (itOf (.val (.ref a)) S) f) Q := w_may (it_lst k) h
theorem w_mayL {f : List D → Res α} {Q : α → Sto → Prop} (k : S[a]? = some (.lst ds)) (h : W (f ds) Q) : W (may (lsOf S (.val (.ref a))) f) Q := w_may (ls_lst k) h
theorem w_mayS {f : List D → Res α} {Q : α → Sto → Prop} (k : S[a]? = some (.lst ds)) (h : W (f ds) Q) : W (may (sqOf S (.val (.ref a))) f) Q := w_may (sq_lst k) h
theorem w_mayT {f : List D → Res α} {Q : α → Sto → Prop} (k : S[a]? = some (.lst ds)) (h : W (f ds) Q) : W (may (trOf S (.val (.ref a))) f) Q := w_may (tr_lst k) h
theorem w_mayO {f : List D → Res α} {Q : α → Sto → Prop} (k : S[a]? = some (.lst ds)) (h : W (f ds) Q) : W (may (lstOf S (.val (.ref a))) f) Q := w_may (lst_lst k) h
theorem so_lst (k : S[a]? = some (.lst ds)) : soOf S (.val (.ref a)) = some ds := by simp only [soOf, ls_lst k]
theorem so_own : soOf S (.own ds) = some ds := rfl
theorem w_mayV {f : List D → Res α} {Q : α → Sto → Prop} (k : S[a]? = some (.lst ds)) (h : W (f ds) Q) : W (may (soOf S (.val (.ref a))) f) Q := w_may (so_lst k) h
theorem strKeys_of : ∀ {ks : List (Key × D)} {xs : List Str}, ks.map (·.1) = xs.map Sum.inr → strKeys ks = some (xs.map D.str)
  | [], [], _ => rfl
  | (k, d) :: ks, x :: xs, h => by
    rw [List.map_cons, List.map_cons] at h
    injection h with h1 h2
    have h1 : k = .inr x := h1
    subst h1
    show (strKeys ks).map (D.str x :: ·) = _
    rw [strKeys_of h2]
    rfl
  | [], _ :: _, h => nomatch h
  | _ :: _, [], h => nomatch h
theorem so_dic {ks : List (Key × D)} {xs : List Str} (k : S[a]? = some (.dic ks)) (e : ks.map (·.1) = xs.map Sum.inr) : soOf S (.val (.ref a)) = some (xs.map D.str) := by
  simp only [soOf, lsOf, dicOf, k]
  exact strKeys_of e
theorem toPs_strs' (xs : List Str) : toPs S (xs.map D.str) = some (xs.map PyData.str) := toPs_strs xs
theorem v_sortS {xs : List Str} {Q : List D → Sto → Prop} (h : Q ((xs.mergeSort (PySem.W.dataLe false PyData.str)).map D.str) S) : W (sortD S (xs.map D.str)) Q := by
  have e1' : (xs.map D.str).mergeSort (PySem.W.dataLe false fun d => (toP S d).getD .none) = (xs.mergeSort (PySem.W.dataLe false PyData.str)).map D.str :=
    (List.map_mergeSort (r := PySem.W.dataLe false PyData.str) (s := PySem.W.dataLe false fun d : D => (toP S d).getD .none) (f := D.str) (l := xs) (fun a _ b _ => rfl)).symm
  unfold sortD
  rw [toPs_strs]
  simp only []
  rw [W_ask, e1']
  refine ⟨⟨.of fun _ _ => by simp [PySem.W.alike], .others fun b => ⟨fun h => PyData.noConfusion h, fun _ h => PyData.noConfusion h⟩, fun p hp => ?_⟩, by simpa using h⟩
  obtain ⟨b, _, rfl⟩ := List.mem_map.mp hp
  simp [PyData.depth]
theorem v_insD {i : Int} {v : D} {Q : D → Sto → Prop} (k : S[a]? = some (.lst ds)) (h0 : 0 ≤ i) (h1 : i < 2 ^ 63) (hl : ds.length < sizeLine) (h : Q .non (S.set a (.lst (ds.take i.toNat ++ [v] ++ ds.drop i.toNat)))) : W (insD (.ref a) (.int i) v S) Q := by
  have h2 : i < 9223372036854775808 := by omega
  simpa [insD, withL, k, h0, h2, hl] using h
theorem v_lenR {Q : D → Sto → Prop} (k : S[a]? = some (.lst ds)) (h : Q (.int ds.length) S) : W (aggD .len (.val (.ref a)) S) Q := v_len (sq_lst k) h
theorem v_tupleR {Q : D → Sto → Prop} (k : S[a]? = some (.lst ds)) (h : Q (.tup ds) S) : W (aggD .tuple (.val (.ref a)) S) Q := v_tuple (sq_lst k) h
end
end PQ

/-! Walks over numbers in a row, by the number; a walk over what is written out. -/
namespace PQ
open PySem PySem.Spec PyProof.Rows L2
section
variable {C : Sto → Prop} {f : D → En → Sto → Res Fl} {Q : Fl → Sto → Prop}
theorem loop_rg {a n : Nat} (I : Nat → En → Sto → Prop)
    (h : ∀ c ρ S, a ≤ c → c < a + n → I c ρ S → C S ∧ W (f (natD c) ρ S) fun fl S' => ∃ ρ', (fl = .nx ρ' ∨ fl = .ct ρ') ∧ I (c + 1) ρ' S')
    (h0 : ∀ ρ S, I (a + n) ρ S → C S ∧ Q (.nx ρ) S) (ρ : En) (S : Sto) (i : I a ρ S) : W (loopS C f ((List.range' a n).map natD) ρ S) Q := by
  induction n generalizing a ρ S with
  | zero =>
    show W (loopS C f [] ρ S) Q
    rw [loopS, W_ask, W_ok]
    exact h0 ρ S i
  | succ n ih =>
    rw [show List.range' a (n + 1) = a :: List.range' (a + 1) n from rfl, List.map_cons, loopS, W_ask, W_bind]
    obtain ⟨k1, k2⟩ := h a ρ S (Nat.le_refl _) (by omega) i
    refine ⟨k1, W_mono k2 fun fl S' ⟨ρ', e, k⟩ => ?_⟩
    have := ih (a := a + 1) (fun c ρ S h1 h2 => h c ρ S (by omega) (by omega)) (fun ρ S j => h0 ρ S (by rwa [show a + (n + 1) = a + 1 + n from by omega])) ρ' S' k
    rcases e with e | e <;> subst e <;> exact this
/-- .. that may go back early -/
theorem loop_rgr {a n : Nat} (I : Nat → En → Sto → Prop)
    (h : ∀ c ρ S, a ≤ c → c < a + n → I c ρ S → C S ∧ W (f (natD c) ρ S) fun fl S' => match fl with
      | .nx ρ' => I (c + 1) ρ' S'
      | .ct ρ' => I (c + 1) ρ' S'
      | .bk ρ' => Q (.nx ρ') S'
      | .rt x => Q (.rt x) S')
    (h0 : ∀ ρ S, I (a + n) ρ S → C S ∧ Q (.nx ρ) S) (ρ : En) (S : Sto) (i : I a ρ S) : W (loopS C f ((List.range' a n).map natD) ρ S) Q := by
  induction n generalizing a ρ S with
  | zero =>
    show W (loopS C f [] ρ S) Q
    rw [loopS, W_ask, W_ok]
    exact h0 ρ S i
  | succ n ih =>
    rw [show List.range' a (n + 1) = a :: List.range' (a + 1) n from rfl, List.map_cons, loopS, W_ask, W_bind]
    obtain ⟨k1, k2⟩ := h a ρ S (Nat.le_refl _) (by omega) i
    have := fun ρ' S' k => ih (a := a + 1) (fun c ρ S h1 h2 => h c ρ S (by omega) (by omega)) (fun ρ S j => h0 ρ S (by rwa [show a + (n + 1) = a + 1 + n from by omega])) ρ' S' k
    refine ⟨k1, W_mono k2 fun fl S' k => ?_⟩
    cases fl with
    | nx ρ' => exact this ρ' S' k
    | ct ρ' => exact this ρ' S' k
    | bk ρ' => exact (W_ok (Q := Q)).symm ▸ k
    | rt x => exact (W_ok (Q := Q)).symm ▸ k
/-- one turn of a walk written out -/
theorem ls_cons {d : D} {ds : List D} {ρ : En} {S : Sto} (hC : C S) (h : W (f d ρ S) fun fl S' => ∃ ρ', (fl = .nx ρ' ∨ fl = .ct ρ') ∧ W (loopS C f ds ρ' S') Q) : W (loopS C f (d :: ds) ρ S) Q := by
  rw [loopS, W_ask, W_bind]
  refine ⟨hC, W_mono h fun fl S' ⟨ρ', e, k⟩ => ?_⟩
  rcases e with e | e <;> subst e <;> exact k
theorem ls_nil {ρ : En} {S : Sto} (hC : C S) (h : Q (.nx ρ) S) : W (loopS C f [] ρ S) Q := by
  rw [loopS, W_ask, W_ok]
  exact ⟨hC, h⟩
end
section
variable {C : Sto → Prop} {f : D → Sto → Res (Option D)} {Q : List D → Sto → Prop}
/-- a comprehension over numbers in a row, its items by the number -/
theorem loopq_rg {a n : Nat} (g : Nat → D) (I : Nat → Sto → Prop)
    (h : ∀ c S, a ≤ c → c < a + n → I c S → C S ∧ W (f (natD c) S) fun o S' => o = some (g c) ∧ I (c + 1) S')
    (h0 : ∀ S, I (a + n) S → C S ∧ Q ((List.range' a n).map g) S) (S : Sto) (i : I a S) : W (loopQ C f ((List.range' a n).map natD) S) Q := by
  induction n generalizing a S Q with
  | zero =>
    show W (loopQ C f [] S) Q
    rw [loopQ, W_ask, W_ok]
    exact h0 S i
  | succ n ih =>
    rw [show List.range' a (n + 1) = a :: List.range' (a + 1) n from rfl, List.map_cons, loopQ, W_ask, W_bind]
    obtain ⟨k1, k2⟩ := h a S (Nat.le_refl _) (by omega) i
    refine ⟨k1, W_mono k2 fun o S' ⟨eo, k⟩ => ?_⟩
    subst eo
    rw [W_bind]
    refine ih (a := a + 1) (Q := fun r S2 => W (.ok (g a :: r) S2) Q) (fun c S h1 h2 => h c S (by omega) (by omega)) (fun S j => ?_) S' k
    obtain ⟨c1, c2⟩ := h0 S (by rwa [show a + (n + 1) = a + 1 + n from by omega])
    exact ⟨c1, (W_ok (Q := Q)).symm ▸ c2⟩
end
end PQ

namespace K24
open PySem PySem.Spec PyProof.Rows L2 PQ
abbrev P : Program := PySem.Challenge.pw_everygrown_k24_lots_judged
def top (i : Nat) : Stmt := P.main.body.getD i (.Pass ⟨0, 0, 0, 0⟩)
def names : List Str := ((["is_number", "is_between", "is_tuple", "are_numbers", "tally", "tallied", "spot_row", "tie_row", "spots_of", "totals_of", "tallies_of", "is_lot", "worth_of", "state_of", "_law_begin", "_law_draw", "_law_pick", "_law_rare", "_law_is_int", "_law_says", "_law_letter", "_law_marks", "_law_tally", "_law_tie_row", "_law_spot_row", "_law_wholes", "_law_ended", "_law_value", "_law_taken", "_law_menu"] : List Str) ++ (["_law_worth", "_law_subset", "_law_tied", "_law_planned_ties", "_law_planned_spots", "_law_planned", "_law_is_choice", "_law_agrees", "_law_needed_tie", "_law_spoilt_ties", "_law_spoilt_spots", "_law_spoilt_web", "_law_other_thing", "_law_spoilt", "law"] : List Str))
def B : List Str := ["len", "range", "tuple", "int", "sorted", "isinstance", "list", "min", "max", "all", "set", "str", "abs", "repr", "bool"]
def Gs : List (Str × Gv) := []

/-! ### the defs, in the small language -/
def b_is_number : CSs := (.cons (.ret (.and (.isi (.var 0) .int) (.not (.isi (.var 0) .bool)))) .nil)
def b_is_between : CSs := (.cons (.ret (.and (.call 0 (.cons (.var 0) .nil)) (.chn .le .le (.var 1) (.var 0) (.var 2)))) .nil)
def b_is_tuple : CSs := (.cons (.ret (.and (.isi (.var 0) .tuple) (.cmp .eq (.agg .len (.e (.var 0))) (.var 1)))) .nil)
def b_are_numbers_2 : CSs := (.cons (.ite (.not (.v (.call 1 (.cons (.var 3) (.cons (.var 1) (.cons (.var 2) .nil)))))) (.cons (.ret (.lit (.bl false))) .nil) .nil) .nil)
def b_are_numbers_3 : CSs := (.cons (.ret (.lit (.bl true))) .nil)
def b_are_numbers_1 : CSs := (.cons (.for (.nm 3) (.r (.e (.var 0))) b_are_numbers_2) b_are_numbers_3)
def b_are_numbers : CSs := (.cons (.ite (.not (.v (.isi (.var 0) .tuple))) (.cons (.ret (.lit (.bl false))) .nil) .nil) b_are_numbers_1)
def b_tally_1 : CSs := (.cons (.ret (.bin .mod (.fn1 .int (.var 1)) (.bin .add (.idx (.var 0) (.lit (.int 2))) (.lit (.int 1))))) .nil)
def b_tally : CSs := (.cons (.ite (.v (.cmp .eq (.idx (.var 0) (.lit (.int 3))) (.lit (.str "cap")))) (.cons (.ret (.fn2 .min (.var 1) (.idx (.var 0) (.lit (.int 2))))) .nil) .nil) b_tally_1)
def b_tallied : CSs := (.cons (.ret (.agg .tuple (.q (.comp [ 2 ] (.nm 2) (.r (.e (.var 1))) (.call 4 (.cons (.var 0) (.cons (.var 2) .nil))))))) .nil)
def b_spot_row_1 : CSs := (.cons (.ite (.and (.v (.cmp .eq (.var 3) (.var 1))) (.v (.cmp .eq (.var 4) (.var 2)))) (.cons (.ret (.tup (.cons (.var 5) (.cons (.var 6) .nil)))) .nil) .nil) .nil)
def b_spot_row_2 : CSs := (.cons (.ret (.lit .non)) .nil)
def b_spot_row : CSs := (.cons (.for (.tup [ 3 , 4 , 5 , 6 ]) (.r (.e (.idx (.var 0) (.lit (.int 4))))) b_spot_row_1) b_spot_row_2)
def b_tie_row_2 : CSs := (.cons (.ret (.tup (.cons (.idx (.var 6) (.lit (.int 4))) (.cons (.idx (.var 6) (.lit (.int 3))) (.cons (.idx (.var 6) (.lit (.int 5))) .nil))))) .nil)
def b_tie_row_1 : CSs := (.cons (.ite (.and (.v (.cmp .eq (.idx (.var 6) (.lit (.int 0))) (.var 1))) (.and (.v (.cmp .eq (.idx (.var 6) (.lit (.int 1))) (.var 4))) (.v (.cmp .eq (.idx (.var 6) (.lit (.int 2))) (.var 5))))) (.cons (.ite (.v (.cmp .le (.var 2) (.var 3))) (.cons (.ret (.tup (.cons (.idx (.var 6) (.lit (.int 3))) (.cons (.idx (.var 6) (.lit (.int 4))) (.cons (.idx (.var 6) (.lit (.int 5))) .nil))))) .nil) .nil) b_tie_row_2) .nil) .nil)
def b_tie_row_3 : CSs := (.cons (.ret (.lit .non)) .nil)
def b_tie_row : CSs := (.cons (.par 4 5 (.fn2 .min (.var 2) (.var 3)) (.fn2 .max (.var 2) (.var 3))) (.cons (.for (.nm 6) (.r (.e (.idx (.var 0) (.lit (.int 5))))) b_tie_row_1) b_tie_row_3))
def b_spots_of : CSs := (.cons (.ret (.bin .add (.idx (.var 0) (.lit (.int 0))) (.agg .len (.e (.idx (.var 0) (.lit (.int 1))))))) .nil)
def b_totals_of_2 : CSs := (.cons (.augS (.var 3) (.var 4) .add (.idx (.var 7) (.lit (.int 0)))) (.cons (.augS (.var 3) (.var 5) .add (.idx (.var 7) (.lit (.int 1)))) .nil))
def b_totals_of_1 : CSs := (.cons (.set (.nm 7) (.call 7 (.cons (.var 0) (.cons (.var 6) (.cons (.idx (.var 2) (.var 4)) (.cons (.idx (.var 2) (.var 5)) .nil)))))) (.cons (.ite (.v (.isN (.var 7))) (.cons (.ret (.lit .non)) .nil) .nil) b_totals_of_2))
def b_totals_of_3 : CSs := (.cons (.ret (.agg .tuple (.e (.var 3)))) .nil)
def b_totals_of : CSs := (.cons (.set (.nm 3) (.alloc (.comp [ 8 ] (.nm 8) (.rg (.lit (.int 0)) (.call 8 (.cons (.var 1) .nil))) (.lit (.int 0))))) (.cons (.for (.tup [ 4 , 5 , 6 ]) (.r (.e (.idx (.var 1) (.lit (.int 2))))) b_totals_of_1) b_totals_of_3))
def b_tallies_of_1 : CSs := (.cons (.ret (.call 5 (.cons (.var 0) (.cons (.var 3) .nil)))) .nil)
def b_tallies_of : CSs := (.cons (.set (.nm 3) (.call 9 (.cons (.var 0) (.cons (.var 1) (.cons (.var 2) .nil))))) (.cons (.ite (.v (.isN (.var 3))) (.cons (.ret (.lit .non)) .nil) .nil) b_tallies_of_1))
def b_is_lot_3 : CSs := (.cons (.set (.nm 5) (.call 6 (.cons (.var 0) (.cons (.idx (.idx (.var 1) (.lit (.int 1))) (.var 4)) (.cons (.idx (.var 2) (.bin .add (.idx (.var 1) (.lit (.int 0))) (.var 4))) .nil))))) (.cons (.ite (.or (.v (.isN (.var 5))) (.v (.notInr (.idx (.var 3) (.bin .add (.idx (.var 1) (.lit (.int 0))) (.var 4))) (.e (.idx (.var 5) (.lit (.int 1))))))) (.cons (.ret (.lit (.bl false))) .nil) .nil) .nil))
def b_is_lot_4 : CSs := (.cons (.ret (.lit (.bl true))) .nil)
def b_is_lot_2 : CSs := (.cons (.for (.nm 4) (.rg (.lit (.int 0)) (.agg .len (.e (.idx (.var 1) (.lit (.int 1)))))) b_is_lot_3) b_is_lot_4)
def b_is_lot_1 : CSs := (.cons (.set (.nm 3) (.call 10 (.cons (.var 0) (.cons (.var 1) (.cons (.var 2) .nil))))) (.cons (.ite (.v (.isN (.var 3))) (.cons (.ret (.lit (.bl false))) .nil) .nil) b_is_lot_2))
def b_is_lot : CSs := (.cons (.ite (.or (.not (.v (.call 2 (.cons (.var 2) (.cons (.call 8 (.cons (.var 1) .nil)) .nil))))) (.not (.v (.call 3 (.cons (.var 2) (.cons (.lit (.int 0)) (.cons (.bin .sub (.idx (.var 0) (.lit (.int 1))) (.lit (.int 1))) .nil))))))) (.cons (.ret (.lit (.bl false))) .nil) .nil) b_is_lot_1)
def b_worth_of_1 : CSs := (.cons (.aug 3 .add (.idx (.call 7 (.cons (.var 0) (.cons (.var 6) (.cons (.idx (.var 2) (.var 4)) (.cons (.idx (.var 2) (.var 5)) .nil))))) (.lit (.int 2)))) .nil)
def b_worth_of_3 : CSs := (.cons (.aug 3 .add (.idx (.call 6 (.cons (.var 0) (.cons (.idx (.idx (.var 1) (.lit (.int 1))) (.var 7)) (.cons (.idx (.var 2) (.bin .add (.idx (.var 1) (.lit (.int 0))) (.var 7))) .nil)))) (.lit (.int 0)))) .nil)
def b_worth_of_4 : CSs := (.cons (.ret (.var 3)) .nil)
def b_worth_of_2 : CSs := (.cons (.for (.nm 7) (.rg (.lit (.int 0)) (.agg .len (.e (.idx (.var 1) (.lit (.int 1)))))) b_worth_of_3) b_worth_of_4)
def b_worth_of : CSs := (.cons (.set (.nm 3) (.lit (.int 0))) (.cons (.for (.tup [ 4 , 5 , 6 ]) (.r (.e (.idx (.var 1) (.lit (.int 2))))) b_worth_of_1) b_worth_of_2))
def b_state_of : CSs := (.cons (.ret (.tup (.cons (.agg .tuple (.e (.slc (.var 2) .none (.some (.idx (.var 1) (.lit (.int 0))))))) (.cons (.slc (.call 10 (.cons (.var 0) (.cons (.var 1) (.cons (.var 2) .nil)))) .none (.some (.idx (.var 1) (.lit (.int 0))))) .nil)))) .nil)
def b__law_begin : CSs := (.cons (.ret (.alloc (.disp (.cons (.alloc (.comp [ 1 ] (.nm 1) (.r (.e (.var 0))) (.fn1 .int (.var 1)))) (.cons (.lit (.int 0)) (.cons (.lit (.int 0)) (.cons (.lit (.int 5)) .nil))))))) .nil)
def b__law_draw_3 : CSs := (.cons (.sub (.var 0) (.lit (.int 3)) (.bin .mod (.fn1 .int (.bin .add (.bin .add (.bin .add (.bin .mul (.idx (.var 0) (.lit (.int 3))) (.lit (.int 48271))) (.bin .mul (.bin .mod (.fn1 .int (.var 3)) (.lit (.int 2147483629))) (.lit (.int 16807)))) (.bin .mul (.idx (.var 0) (.lit (.int 1))) (.lit (.int 69621)))) (.lit (.int 11)))) (.lit (.int 2147483647)))) (.cons (.ret (.bin .mod (.fn1 .int (.bin .fdiv (.idx (.var 0) (.lit (.int 3))) (.lit (.int 16)))) (.var 1))) .nil))
def b__law_draw_2 : CSs := (.cons (.augS (.var 0) (.lit (.int 1)) .add (.lit (.int 1))) (.cons (.ite (.v (.cmp .ge (.var 3) (.bin .mul (.lit (.int 2)) (.bin .pow (.lit (.int 10)) (.lit (.int 18)))))) (.cons (.set (.nm 2) (.bin .mod (.fn1 .int (.bin .fdiv (.var 3) (.lit (.int 2)))) (.bin .shl (.lit (.int 1)) (.lit (.int 6000))))) (.cons (.sub (.var 0) (.lit (.int 2)) (.bin .fdiv (.var 2) (.var 1))) (.cons (.ret (.bin .mod (.fn1 .int (.var 2)) (.var 1))) .nil))) .nil) b__law_draw_3))
def b__law_draw_1 : CSs := (.cons (.set (.nm 3) (.lit (.int 0))) (.cons (.ite (.v (.cmp .lt (.idx (.var 0) (.lit (.int 1))) (.agg .len (.e (.idx (.var 0) (.lit (.int 0))))))) (.cons (.set (.nm 4) (.idx (.idx (.var 0) (.lit (.int 0))) (.idx (.var 0) (.lit (.int 1))))) (.cons (.set (.nm 3) (.bin .add (.bin .mul (.lit (.int 2)) (.fn1 .abs (.var 4))) (.fn1 .int (.cmp .lt (.var 4) (.lit (.int 0)))))) .nil)) .nil) b__law_draw_2))
def b__law_draw : CSs := (.cons (.ite (.v (.cmp .gt (.idx (.var 0) (.lit (.int 2))) (.lit (.int 0)))) (.cons (.set (.nm 2) (.idx (.var 0) (.lit (.int 2)))) (.cons (.sub (.var 0) (.lit (.int 2)) (.bin .fdiv (.var 2) (.var 1))) (.cons (.ret (.bin .mod (.fn1 .int (.var 2)) (.var 1))) .nil))) .nil) b__law_draw_1)
def b__law_pick : CSs := (.cons (.ret (.idx (.var 1) (.call 15 (.cons (.var 0) (.cons (.agg .len (.e (.var 1))) .nil))))) .nil)
def b__law_rare : CSs := (.cons (.ret (.cmp .eq (.call 15 (.cons (.var 0) (.cons (.var 1) .nil))) (.bin .fdiv (.var 1) (.lit (.int 2))))) .nil)
def b__law_is_int : CSs := (.cons (.ret (.and (.isi (.var 0) .int) (.not (.isi (.var 0) .bool)))) .nil)
def b__law_says : CSs := (.cons (.ret (.and (.isi (.var 0) .bool) (.cmp .eq (.var 0) (.var 1)))) .nil)
def b__law_letter : CSs := (.cons (.ret (.idx (.lit (.str "abcdefghijklmnopqrstuvwxyz")) (.call 15 (.cons (.var 0) (.cons (.lit (.int 26)) .nil))))) .nil)
def b__law_marks : CSs := (.cons (.ret (.join "" (.q (.comp [ 3 ] (.nm 3) (.rg (.lit (.int 0)) (.var 1)) (.call 16 (.cons (.var 0) (.cons (.var 2) .nil))))))) .nil)
def b__law_tally : CSs := (.cons (.ret (.ife (.v (.cmp .eq (.idx (.var 0) (.lit (.int 3))) (.lit (.str "cap")))) (.fn2 .min (.var 1) (.idx (.var 0) (.lit (.int 2)))) (.bin .mod (.fn1 .int (.var 1)) (.bin .add (.idx (.var 0) (.lit (.int 2))) (.lit (.int 1)))))) .nil)
def b__law_tie_row_2 : CSs := (.cons (.ret (.tup (.cons (.var 8) (.cons (.var 7) (.cons (.var 9) .nil))))) .nil)
def b__law_tie_row_1 : CSs := (.cons (.ite (.and (.v (.cmp .eq (.var 4) (.var 1))) (.and (.v (.cmp .eq (.var 5) (.fn2 .min (.var 2) (.var 3)))) (.v (.cmp .eq (.var 6) (.fn2 .max (.var 2) (.var 3)))))) (.cons (.ite (.v (.cmp .le (.var 2) (.var 3))) (.cons (.ret (.tup (.cons (.var 7) (.cons (.var 8) (.cons (.var 9) .nil))))) .nil) .nil) b__law_tie_row_2) .nil) .nil)
def b__law_tie_row_3 : CSs := (.cons (.ret (.lit .non)) .nil)
def b__law_tie_row : CSs := (.cons (.for (.tup [ 4 , 5 , 6 , 7 , 8 , 9 ]) (.r (.e (.idx (.var 0) (.lit (.int 5))))) b__law_tie_row_1) b__law_tie_row_3)
def b__law_spot_row_1 : CSs := (.cons (.ite (.and (.v (.cmp .eq (.var 3) (.var 1))) (.v (.cmp .eq (.var 4) (.var 2)))) (.cons (.ret (.tup (.cons (.var 5) (.cons (.var 6) .nil)))) .nil) .nil) .nil)
def b__law_spot_row_2 : CSs := (.cons (.ret (.lit .non)) .nil)
def b__law_spot_row : CSs := (.cons (.for (.tup [ 3 , 4 , 5 , 6 ]) (.r (.e (.idx (.var 0) (.lit (.int 4))))) b__law_spot_row_1) b__law_spot_row_2)
def b__law_wholes_2 : CSs := (.cons (.augS (.var 4) (.var 6) .add (.idx (.var 9) (.lit (.int 0)))) (.cons (.augS (.var 4) (.var 7) .add (.idx (.var 9) (.lit (.int 1)))) (.cons (.aug 5 .add (.idx (.var 9) (.lit (.int 2)))) .nil)))
def b__law_wholes_1 : CSs := (.cons (.set (.nm 9) (.call 23 (.cons (.var 0) (.cons (.var 8) (.cons (.idx (.var 3) (.var 6)) (.cons (.idx (.var 3) (.var 7)) .nil)))))) (.cons (.ite (.v (.isN (.var 9))) (.cons (.ret (.lit .non)) .nil) .nil) b__law_wholes_2))
def b__law_wholes_3 : CSs := (.cons (.ret (.tup (.cons (.var 4) (.cons (.var 5) .nil)))) .nil)
def b__law_wholes : CSs := (.cons (.set (.nm 4) (.alloc (.comp [ 10 ] (.nm 10) (.rg (.lit (.int 0)) (.var 2)) (.lit (.int 0))))) (.cons (.set (.nm 5) (.lit (.int 0))) (.cons (.for (.tup [ 6 , 7 , 8 ]) (.r (.e (.var 1))) b__law_wholes_1) b__law_wholes_3)))
def b__law_ended_2 : CSs := (.cons (.aug 5 .add (.idx (.var 8) (.lit (.int 0)))) .nil)
def b__law_ended_1 : CSs := (.cons (.set (.nm 8) (.call 24 (.cons (.var 0) (.cons (.idx (.var 2) (.var 7)) (.cons (.idx (.var 3) (.bin .add (.var 1) (.var 7))) .nil))))) (.cons (.ite (.or (.v (.isN (.var 8))) (.v (.notInr (.idx (.var 6) (.bin .add (.var 1) (.var 7))) (.e (.idx (.var 8) (.lit (.int 1))))))) (.cons (.ret (.lit .non)) .nil) .nil) b__law_ended_2))
def b__law_ended_3 : CSs := (.cons (.ret (.tup (.cons (.tup (.cons (.agg .tuple (.e (.slc (.var 3) .none (.some (.var 1))))) (.cons (.agg .tuple (.e (.slc (.var 6) .none (.some (.var 1))))) .nil))) (.cons (.var 5) .nil)))) .nil)
def b__law_ended : CSs := (.cons (.set (.nm 6) (.alloc (.comp [ 9 ] (.nm 9) (.r (.e (.var 4))) (.call 22 (.cons (.var 0) (.cons (.var 9) .nil)))))) (.cons (.for (.nm 7) (.rg (.lit (.int 0)) (.agg .len (.e (.var 2)))) b__law_ended_1) b__law_ended_3))
def b__law_value_1 : CSs := (.cons (.ret (.call 26 (.cons (.var 0) (.cons (.idx (.var 1) (.lit (.int 0))) (.cons (.idx (.var 1) (.lit (.int 1))) (.cons (.var 2) (.cons (.idx (.var 3) (.lit (.int 0))) (.cons (.idx (.var 3) (.lit (.int 1))) .nil)))))))) .nil)
def b__law_value : CSs := (.cons (.set (.nm 3) (.call 25 (.cons (.var 0) (.cons (.idx (.var 1) (.lit (.int 2))) (.cons (.bin .add (.idx (.var 1) (.lit (.int 0))) (.agg .len (.e (.idx (.var 1) (.lit (.int 1)))))) (.cons (.var 2) .nil)))))) (.cons (.ite (.v (.isN (.var 3))) (.cons (.ret (.lit .non)) .nil) .nil) b__law_value_1))
def b__law_taken : CSs := (.cons (.set (.nm 3) (.alloc (.list (.e (.var 1))))) (.cons (.ret (.alloc (.comp [ 4 ] (.nm 4) (.rg (.lit (.int 0)) (.var 2)) (.popAt (.var 3) (.call 15 (.cons (.var 0) (.cons (.agg .len (.e (.var 3))) .nil))))))) .nil))
def b__law_menu : CSs := (.cons (.ret (.alloc (.sorted (.e (.call 28 (.cons (.var 0) (.cons (.alloc (.list (.e (.lit (.str "abcdefghijklmnopqrstuvwxyz"))))) (.cons (.bin .add (.lit (.int 1)) (.call 15 (.cons (.var 0) (.cons (.var 1) .nil)))) .nil)))))))) .nil)
def b__law_worth : CSs := (.cons (.ret (.call 16 (.cons (.var 0) (.cons (.alloc (.disp (.cons (.neg (.lit (.int 99))) (.cons (.lit (.int 99)) (.cons (.lit (.int 0)) (.cons (.lit (.int 1)) (.cons (.bin .sub (.call 15 (.cons (.var 0) (.cons (.lit (.int 199)) .nil))) (.lit (.int 99))) .nil))))))) .nil)))) .nil)
def b__law_subset : CSs := (.cons (.set (.nm 2) (.bin .add (.lit (.int 1)) (.call 15 (.cons (.var 0) (.cons (.bin .sub (.bin .shl (.lit (.int 1)) (.bin .add (.var 1) (.lit (.int 1)))) (.lit (.int 1))) .nil))))) (.cons (.ret (.agg .tuple (.q (.compIf [ 3 ] (.nm 3) (.rg (.lit (.int 0)) (.bin .add (.var 1) (.lit (.int 1)))) (.v (.cmp .eq (.bin .mod (.fn1 .int (.bin .fdiv (.var 2) (.bin .shl (.lit (.int 1)) (.var 3)))) (.lit (.int 2))) (.lit (.int 1)))) (.var 3))))) .nil))
def b__law_tied_1 : CSs := (.cons (.set (.nm 6) (.call 15 (.cons (.var 0) (.cons (.var 1) .nil)))) (.cons (.set (.nm 7) (.bin .mod (.fn1 .int (.bin .add (.bin .add (.var 6) (.lit (.int 1))) (.call 15 (.cons (.var 0) (.cons (.bin .sub (.var 1) (.lit (.int 1))) .nil))))) (.var 1))) (.cons (.ex (.app (.var 4) (.tup (.cons (.fn2 .min (.var 6) (.var 7)) (.cons (.fn2 .max (.var 6) (.var 7)) (.cons (.call 16 (.cons (.var 0) (.cons (.var 3) .nil))) .nil)))))) .nil)))
def b__law_tied_2 : CSs := (.cons (.ret (.agg .tuple (.q (.sorted (.e (.var 4)))))) .nil)
def b__law_tied : CSs := (.cons (.set (.nm 4) (.alloc (.disp .nil))) (.cons (.for (.nm 5) (.rg (.lit (.int 0)) (.ife (.v (.cmp .gt (.var 1) (.lit (.int 1)))) (.var 2) (.lit (.int 0)))) b__law_tied_1) b__law_tied_2))
def b__law_planned_ties_1 : CSs := (.cons (.sub (.var 6) (.tup (.cons (.var 9) (.cons (.fn2 .min (.idx (.var 2) (.var 7)) (.idx (.var 2) (.var 8))) (.cons (.fn2 .max (.idx (.var 2) (.var 7)) (.idx (.var 2) (.var 8))) .nil)))) (.lit (.bl true))) .nil)
def b__law_planned_ties_5 : CSs := (.cons (.ite (.or (.v (.inr (.tup (.cons (.var 9) (.cons (.var 11) (.cons (.var 12) .nil)))) (.e (.var 6)))) (.v (.cmp .eq (.call 15 (.cons (.var 0) (.cons (.lit (.int 2)) .nil))) (.lit (.int 0))))) (.cons (.set (.nm 13) (.call 15 (.cons (.var 0) (.cons (.bin .add (.var 4) (.lit (.int 1))) .nil)))) (.cons (.set (.nm 14) (.ife (.v (.cmp .eq (.var 11) (.var 12))) (.var 13) (.call 15 (.cons (.var 0) (.cons (.bin .add (.var 4) (.lit (.int 1))) .nil))))) (.cons (.ex (.app (.var 10) (.tup (.cons (.var 9) (.cons (.var 11) (.cons (.var 12) (.cons (.var 13) (.cons (.var 14) (.cons (.call 30 (.cons (.var 0) .nil)) .nil))))))))) .nil))) .nil) .nil)
def b__law_planned_ties_4 : CSs := (.cons (.for (.nm 12) (.rg (.var 11) (.var 3)) b__law_planned_ties_5) .nil)
def b__law_planned_ties_3 : CSs := (.cons (.for (.nm 11) (.rg (.lit (.int 0)) (.var 3)) b__law_planned_ties_4) .nil)
def b__law_planned_ties_6 : CSs := (.cons (.ret (.agg .tuple (.e (.var 10)))) .nil)
def b__law_planned_ties_2 : CSs := (.cons (.set (.nm 10) (.alloc (.disp .nil))) (.cons (.for (.nm 9) (.r (.e (.var 5))) b__law_planned_ties_3) b__law_planned_ties_6))
def b__law_planned_ties : CSs := (.cons (.set (.nm 6) .dnew) (.cons (.for (.tup [ 7 , 8 , 9 ]) (.r (.e (.idx (.var 1) (.lit (.int 2))))) b__law_planned_ties_1) b__law_planned_ties_2))
def b__law_planned_spots_1 : CSs := (.cons (.set (.nm 9) (.bin .add (.idx (.var 1) (.lit (.int 0))) (.var 8))) (.cons (.set (.nm 10) (.dsetd (.var 7) (.tup (.cons (.idx (.idx (.var 1) (.lit (.int 1))) (.var 8)) (.cons (.idx (.var 2) (.var 9)) .nil))) (.alloc (.disp .nil)))) (.cons (.ex (.app (.var 10) (.idx (.var 3) (.var 9)))) .nil)))
def b__law_planned_spots_4 : CSs := (.cons (.set (.nm 14) (.dget (.var 7) (.tup (.cons (.var 12) (.cons (.var 13) .nil))) (.alloc (.disp .nil)))) (.cons (.ite (.or (.v (.cmp .gt (.agg .len (.e (.var 14))) (.lit (.int 0)))) (.v (.cmp .eq (.call 15 (.cons (.var 0) (.cons (.lit (.int 2)) .nil))) (.lit (.int 0))))) (.cons (.set (.nm 15) (.ife (.or (.v (.cmp .eq (.agg .len (.e (.var 14))) (.lit (.int 0)))) (.v (.cmp .eq (.call 15 (.cons (.var 0) (.cons (.lit (.int 2)) .nil))) (.lit (.int 0))))) (.alloc (.list (.e (.call 31 (.cons (.var 0) (.cons (.var 5) .nil)))))) (.alloc (.disp .nil)))) (.cons (.ex (.app (.var 11) (.tup (.cons (.var 12) (.cons (.var 13) (.cons (.call 30 (.cons (.var 0) .nil)) (.cons (.agg .tuple (.q (.sset (.e (.bin .add (.var 14) (.var 15)))))) .nil))))))) .nil)) .nil) .nil))
def b__law_planned_spots_3 : CSs := (.cons (.for (.nm 13) (.rg (.lit (.int 0)) (.var 4)) b__law_planned_spots_4) .nil)
def b__law_planned_spots_5 : CSs := (.cons (.ret (.agg .tuple (.e (.var 11)))) .nil)
def b__law_planned_spots_2 : CSs := (.cons (.set (.nm 11) (.alloc (.disp .nil))) (.cons (.for (.nm 12) (.r (.e (.var 6))) b__law_planned_spots_3) b__law_planned_spots_5))
def b__law_planned_spots : CSs := (.cons (.set (.nm 7) .dnew) (.cons (.for (.nm 8) (.rg (.lit (.int 0)) (.agg .len (.e (.idx (.var 1) (.lit (.int 1)))))) b__law_planned_spots_1) b__law_planned_spots_2))
def b__law_planned : CSs := (.cons (.set (.nm 2) (.call 15 (.cons (.var 0) (.cons (.lit (.int 4)) .nil)))) (.cons (.set (.nm 3) (.ife (.v (.var 1)) (.call 16 (.cons (.var 0) (.cons (.alloc (.disp (.cons (.lit (.int 60)) (.cons (.call 15 (.cons (.var 0) (.cons (.lit (.int 61)) .nil))) .nil)))) .nil))) (.call 15 (.cons (.var 0) (.cons (.lit (.int 6)) .nil))))) (.cons (.set (.nm 4) (.ife (.v (.var 1)) (.call 16 (.cons (.var 0) (.cons (.alloc (.disp (.cons (.lit (.int 200)) (.cons (.call 15 (.cons (.var 0) (.cons (.lit (.int 201)) .nil))) .nil)))) .nil))) (.call 15 (.cons (.var 0) (.cons (.lit (.int 10)) .nil))))) (.cons (.set (.nm 5) (.call 29 (.cons (.var 0) (.cons (.ife (.v (.var 1)) (.lit (.int 20)) (.lit (.int 3))) .nil)))) (.cons (.set (.nm 6) (.call 29 (.cons (.var 0) (.cons (.ife (.v (.var 1)) (.lit (.int 10)) (.lit (.int 3))) .nil)))) (.cons (.set (.nm 7) (.tup (.cons (.var 2) (.cons (.call 21 (.cons (.var 0) (.cons (.var 3) (.cons (.var 5) .nil)))) (.cons (.call 32 (.cons (.var 0) (.cons (.bin .add (.var 2) (.var 3)) (.cons (.var 4) (.cons (.var 6) .nil))))) .nil))))) (.cons (.set (.nm 8) (.bin .add (.lit (.int 1)) (.call 15 (.cons (.var 0) (.cons (.lit (.int 3)) .nil))))) (.cons (.set (.nm 9) (.call 15 (.cons (.var 0) (.cons (.lit (.int 3)) .nil)))) (.cons (.set (.nm 10) (.tup (.cons (.bin .add (.call 20 (.cons (.var 0) .nil)) (.lit (.str "lot"))) (.cons (.var 8) (.cons (.var 9) (.cons (.call 16 (.cons (.var 0) (.cons (.alloc (.disp (.cons (.lit (.str "cap")) (.cons (.lit (.str "mod")) .nil)))) .nil))) .nil)))))) (.cons (.set (.nm 11) (.agg .tuple (.q (.comp [ 16 ] (.nm 16) (.rg (.lit (.int 0)) (.bin .add (.var 2) (.var 3))) (.call 15 (.cons (.var 0) (.cons (.var 8) .nil))))))) (.cons (.set (.nm 12) (.call 33 (.cons (.var 0) (.cons (.var 7) (.cons (.var 11) (.cons (.var 8) (.cons (.var 9) (.cons (.var 6) .nil)))))))) (.cons (.set (.nm 13) (.idx (.call 25 (.cons (.bin .add (.var 10) (.tup (.cons (.tup .nil) (.cons (.var 12) .nil)))) (.cons (.idx (.var 7) (.lit (.int 2))) (.cons (.bin .add (.var 2) (.var 3)) (.cons (.var 11) .nil))))) (.lit (.int 0)))) (.cons (.set (.nm 14) (.alloc (.comp [ 15 ] (.nm 15) (.r (.e (.var 13))) (.call 22 (.cons (.var 10) (.cons (.var 15) .nil)))))) (.cons (.ret (.alloc (.disp (.cons (.bin .add (.var 10) (.tup (.cons (.call 34 (.cons (.var 0) (.cons (.var 7) (.cons (.var 11) (.cons (.var 14) (.cons (.var 8) (.cons (.var 9) (.cons (.var 5) .nil)))))))) (.cons (.var 12) .nil)))) (.cons (.var 7) (.cons (.var 11) .nil)))))) .nil))))))))))))))
def b__law_is_choice_1 : CSs := (.cons (.ret (.agg .all (.q (.comp [ 3 ] (.nm 3) (.r (.e (.var 2))) (.and (.call 18 (.cons (.var 3) .nil)) (.chn .le .lt (.lit (.int 0)) (.var 3) (.idx (.var 0) (.lit (.int 1))))))))) .nil)
def b__law_is_choice : CSs := (.cons (.ite (.or (.not (.v (.isi (.var 2) .tuple))) (.v (.cmp .ne (.agg .len (.e (.var 2))) (.bin .add (.idx (.var 1) (.lit (.int 0))) (.agg .len (.e (.idx (.var 1) (.lit (.int 1))))))))) (.cons (.ret (.lit (.bl false))) .nil) .nil) b__law_is_choice_1)
def b__law_agrees_4 : CSs := (.cons (.set (.nm 7) (.call 12 (.cons (.var 0) (.cons (.var 1) (.cons (.var 2) .nil))))) (.cons (.ret (.and (.call 18 (.cons (.var 7) .nil)) (.and (.cmp .eq (.var 7) (.idx (.var 4) (.lit (.int 1)))) (.cmp .eq (.fn1 .repr (.call 13 (.cons (.var 0) (.cons (.var 1) (.cons (.var 2) .nil))))) (.fn1 .repr (.idx (.var 4) (.lit (.int 0)))))))) .nil))
def b__law_agrees_3 : CSs := (.cons (.ite (.v (.isN (.var 4))) (.cons (.ret (.lit (.bl true))) .nil) .nil) b__law_agrees_4)
def b__law_agrees_2 : CSs := (.cons (.set (.nm 5) (.call 25 (.cons (.var 0) (.cons (.idx (.var 1) (.lit (.int 2))) (.cons (.agg .len (.e (.var 2))) (.cons (.var 2) .nil)))))) (.cons (.set (.nm 6) (.ife (.v (.isN (.var 5))) (.lit .non) (.agg .tuple (.q (.comp [ 8 ] (.nm 8) (.r (.e (.idx (.var 5) (.lit (.int 0))))) (.call 22 (.cons (.var 0) (.cons (.var 8) .nil)))))))) (.cons (.ite (.v (.cmp .ne (.fn1 .repr (.call 10 (.cons (.var 0) (.cons (.var 1) (.cons (.var 2) .nil))))) (.fn1 .repr (.var 6)))) (.cons (.ret (.lit (.bl false))) .nil) .nil) b__law_agrees_3)))
def b__law_agrees_1 : CSs := (.cons (.ite (.not (.v (.var 3))) (.cons (.ret (.lit (.bl true))) .nil) .nil) b__law_agrees_2)
def b__law_agrees : CSs := (.cons (.set (.nm 3) (.call 36 (.cons (.var 0) (.cons (.var 1) (.cons (.var 2) .nil))))) (.cons (.set (.nm 4) (.ife (.v (.var 3)) (.call 27 (.cons (.var 0) (.cons (.var 1) (.cons (.var 2) .nil)))) (.lit .non))) (.cons (.ite (.not (.v (.call 19 (.cons (.call 11 (.cons (.var 0) (.cons (.var 1) (.cons (.var 2) .nil)))) (.cons (.notN (.var 4)) .nil))))) (.cons (.ret (.lit (.bl false))) .nil) .nil) b__law_agrees_1)))
def b__law_needed_tie : CSs := (.cons (.set (.tup [ 4 , 5 , 6 ]) (.call 16 (.cons (.var 0) (.cons (.idx (.var 2) (.lit (.int 2))) .nil)))) (.cons (.set (.nm 7) (.tup (.cons (.var 6) (.cons (.fn2 .min (.idx (.var 3) (.var 4)) (.idx (.var 3) (.var 5))) (.cons (.fn2 .max (.idx (.var 3) (.var 4)) (.idx (.var 3) (.var 5))) .nil))))) (.cons (.ret (.tix (.alloc (.comp [ 8 ] (.nm 8) (.r (.e (.idx (.var 1) (.lit (.int 5))))) (.slc (.var 8) .none (.some (.lit (.int 3)))))) (.var 7))) .nil)))
def b__law_spoilt_ties_1 : CSs := (.cons (.set (.nm 6) (.call 15 (.cons (.var 0) (.cons (.bin .add (.idx (.var 1) (.lit (.int 2))) (.lit (.int 1))) .nil)))) (.cons (.set (.nm 7) (.ife (.v (.cmp .eq (.idx (.idx (.var 5) (.var 4)) (.lit (.int 1))) (.idx (.idx (.var 5) (.var 4)) (.lit (.int 2))))) (.var 6) (.call 15 (.cons (.var 0) (.cons (.bin .add (.idx (.var 1) (.lit (.int 2))) (.lit (.int 1))) .nil))))) (.cons (.ret (.alloc (.disp (.cons (.bin .add (.slc (.var 1) .none (.some (.lit (.int 5)))) (.tup (.cons (.bin .add (.bin .add (.slc (.var 5) .none (.some (.var 4))) (.tup (.cons (.bin .add (.slc (.idx (.var 5) (.var 4)) .none (.some (.lit (.int 3)))) (.tup (.cons (.var 6) (.cons (.var 7) (.cons (.call 30 (.cons (.var 0) .nil)) .nil))))) .nil))) (.slc (.var 5) (.some (.bin .add (.var 4) (.lit (.int 1)))) .none)) .nil))) (.cons (.var 2) (.cons (.var 3) .nil)))))) .nil)))
def b__law_spoilt_ties : CSs := (.cons (.set (.nm 4) (.call 38 (.cons (.var 0) (.cons (.var 1) (.cons (.var 2) (.cons (.var 3) .nil)))))) (.cons (.set (.nm 5) (.idx (.var 1) (.lit (.int 5)))) (.cons (.ite (.v (.cmp .eq (.call 15 (.cons (.var 0) (.cons (.lit (.int 2)) .nil))) (.lit (.int 0)))) (.cons (.ret (.alloc (.disp (.cons (.bin .add (.slc (.var 1) .none (.some (.lit (.int 5)))) (.tup (.cons (.bin .add (.slc (.var 5) .none (.some (.var 4))) (.slc (.var 5) (.some (.bin .add (.var 4) (.lit (.int 1)))) .none)) .nil))) (.cons (.var 2) (.cons (.var 3) .nil)))))) .nil) .nil) b__law_spoilt_ties_1)))
def b__law_spoilt_spots_2 : CSs := (.cons (.ret (.alloc (.disp (.cons (.bin .add (.slc (.var 1) .none (.some (.lit (.int 4)))) (.tup (.cons (.bin .add (.bin .add (.slc (.var 5) .none (.some (.var 6))) (.tup (.cons (.bin .add (.slc (.idx (.var 5) (.var 6)) .none (.some (.lit (.int 2)))) (.tup (.cons (.call 30 (.cons (.var 0) .nil)) (.cons (.var 8) .nil)))) .nil))) (.slc (.var 5) (.some (.bin .add (.var 6) (.lit (.int 1)))) .none)) (.cons (.idx (.var 1) (.lit (.int 5))) .nil)))) (.cons (.var 2) (.cons (.var 3) .nil)))))) .nil)
def b__law_spoilt_spots_1 : CSs := (.cons (.set (.nm 7) (.call 22 (.cons (.var 1) (.cons (.idx (.idx (.call 25 (.cons (.var 1) (.cons (.idx (.var 2) (.lit (.int 2))) (.cons (.agg .len (.e (.var 3))) (.cons (.var 3) .nil))))) (.lit (.int 0))) (.var 4)) .nil)))) (.cons (.set (.nm 8) (.agg .tuple (.q (.compIf [ 9 ] (.nm 9) (.rg (.lit (.int 0)) (.bin .add (.idx (.var 1) (.lit (.int 2))) (.lit (.int 1)))) (.v (.cmp .ne (.var 9) (.var 7))) (.var 9))))) (.cons (.ite (.or (.v (.cmp .eq (.agg .len (.e (.var 8))) (.lit (.int 0)))) (.v (.cmp .eq (.call 15 (.cons (.var 0) (.cons (.lit (.int 3)) .nil))) (.lit (.int 0))))) (.cons (.set (.nm 8) (.call 31 (.cons (.var 0) (.cons (.idx (.var 1) (.lit (.int 2))) .nil)))) .nil) .nil) b__law_spoilt_spots_2)))
def b__law_spoilt_spots : CSs := (.cons (.set (.nm 4) (.bin .add (.idx (.var 2) (.lit (.int 0))) (.call 15 (.cons (.var 0) (.cons (.agg .len (.e (.idx (.var 2) (.lit (.int 1))))) .nil))))) (.cons (.set (.nm 5) (.idx (.var 1) (.lit (.int 4)))) (.cons (.set (.nm 6) (.tix (.alloc (.comp [ 10 ] (.nm 10) (.r (.e (.var 5))) (.slc (.var 10) .none (.some (.lit (.int 2)))))) (.tup (.cons (.idx (.idx (.var 2) (.lit (.int 1))) (.bin .sub (.var 4) (.idx (.var 2) (.lit (.int 0))))) (.cons (.idx (.var 3) (.var 4)) .nil))))) (.cons (.ite (.v (.cmp .eq (.call 15 (.cons (.var 0) (.cons (.lit (.int 2)) .nil))) (.lit (.int 0)))) (.cons (.ret (.alloc (.disp (.cons (.bin .add (.slc (.var 1) .none (.some (.lit (.int 4)))) (.tup (.cons (.bin .add (.slc (.var 5) .none (.some (.var 6))) (.slc (.var 5) (.some (.bin .add (.var 6) (.lit (.int 1)))) .none)) (.cons (.idx (.var 1) (.lit (.int 5))) .nil)))) (.cons (.var 2) (.cons (.var 3) .nil)))))) .nil) .nil) b__law_spoilt_spots_1))))
def b__law_spoilt_web_3 : CSs := (.cons (.ret (.alloc (.disp (.cons (.bin .add (.bin .add (.slc (.var 1) .none (.some (.lit (.int 3)))) (.tup (.cons (.ife (.v (.cmp .eq (.idx (.var 1) (.lit (.int 3))) (.lit (.str "cap")))) (.lit (.str "mod")) (.lit (.str "cap"))) .nil))) (.slc (.var 1) (.some (.lit (.int 4))) .none)) (.cons (.var 2) (.cons (.var 3) .nil)))))) .nil)
def b__law_spoilt_web_2 : CSs := (.cons (.ite (.v (.chn .lt .lt (.lit (.int 0)) (.agg .len (.e (.var 6))) (.lit (.int 200)))) (.cons (.set (.nm 8) (.call 15 (.cons (.var 0) (.cons (.agg .len (.e (.var 6))) .nil)))) (.cons (.ret (.alloc (.disp (.cons (.var 1) (.cons (.tup (.cons (.var 4) (.cons (.var 5) (.cons (.bin .add (.slc (.var 6) .none (.some (.bin .add (.var 8) (.lit (.int 1))))) (.slc (.var 6) (.some (.var 8)) .none)) .nil)))) (.cons (.var 3) .nil)))))) .nil)) .nil) b__law_spoilt_web_3)
def b__law_spoilt_web_1 : CSs := (.cons (.ite (.and (.v (.cmp .eq (.var 7) (.lit (.int 1)))) (.v (.cmp .gt (.agg .len (.e (.var 6))) (.lit (.int 0))))) (.cons (.set (.nm 8) (.call 15 (.cons (.var 0) (.cons (.agg .len (.e (.var 6))) .nil)))) (.cons (.ret (.alloc (.disp (.cons (.var 1) (.cons (.tup (.cons (.var 4) (.cons (.var 5) (.cons (.bin .add (.slc (.var 6) .none (.some (.var 8))) (.slc (.var 6) (.some (.bin .add (.var 8) (.lit (.int 1)))) .none)) .nil)))) (.cons (.var 3) .nil)))))) .nil)) .nil) b__law_spoilt_web_2)
def b__law_spoilt_web : CSs := (.cons (.set (.tup [ 4 , 5 , 6 ]) (.var 2)) (.cons (.set (.nm 7) (.call 15 (.cons (.var 0) (.cons (.lit (.int 3)) .nil)))) (.cons (.ite (.and (.v (.cmp .eq (.var 7) (.lit (.int 0)))) (.v (.cmp .gt (.agg .len (.e (.var 5))) (.lit (.int 0))))) (.cons (.set (.nm 8) (.call 15 (.cons (.var 0) (.cons (.agg .len (.e (.var 5))) .nil)))) (.cons (.ret (.alloc (.disp (.cons (.var 1) (.cons (.tup (.cons (.var 4) (.cons (.bin .add (.bin .add (.slc (.var 5) .none (.some (.var 8))) (.call 20 (.cons (.var 0) .nil))) (.slc (.var 5) (.some (.bin .add (.var 8) (.lit (.int 1)))) .none)) (.cons (.var 6) .nil)))) (.cons (.var 3) .nil)))))) .nil)) .nil) b__law_spoilt_web_1)))
def b__law_other_thing_1 : CSs := (.cons (.set (.nm 3) (.call 15 (.cons (.var 0) (.cons (.agg .len (.e (.var 2))) .nil)))) (.cons (.set (.nm 4) (.idx (.var 2) (.var 3))) (.cons (.set (.nm 5) (.call 16 (.cons (.var 0) (.cons (.alloc (.disp (.cons (.call 15 (.cons (.var 0) (.cons (.idx (.var 1) (.lit (.int 1))) .nil))) (.cons (.call 15 (.cons (.var 0) (.cons (.idx (.var 1) (.lit (.int 1))) .nil))) (.cons (.call 15 (.cons (.var 0) (.cons (.idx (.var 1) (.lit (.int 1))) .nil))) (.cons (.idx (.var 1) (.lit (.int 1))) (.cons (.neg (.lit (.int 1))) (.cons (.cmp .eq (.var 4) (.lit (.int 1))) (.cons (.fn1 .str (.var 4)) (.cons (.lit .non) (.cons (.tup (.cons (.var 4) .nil)) (.cons (.alloc (.disp (.cons (.var 4) .nil))) .nil)))))))))))) .nil)))) (.cons (.ret (.bin .add (.bin .add (.slc (.var 2) .none (.some (.var 3))) (.tup (.cons (.var 5) .nil))) (.slc (.var 2) (.some (.bin .add (.var 3) (.lit (.int 1)))) .none))) .nil))))
def b__law_other_thing : CSs := (.cons (.ite (.or (.v (.cmp .eq (.agg .len (.e (.var 2))) (.lit (.int 0)))) (.v (.cmp .eq (.call 15 (.cons (.var 0) (.cons (.lit (.int 3)) .nil))) (.lit (.int 0))))) (.cons (.ret (.call 16 (.cons (.var 0) (.cons (.alloc (.disp (.cons (.alloc (.list (.e (.var 2)))) (.cons (.bin .add (.var 2) (.tup (.cons (.lit (.int 0)) .nil))) (.cons (.slc (.var 2) .none (.some (.neg (.lit (.int 1))))) (.cons (.slc (.var 2) (.some (.lit (.int 1))) .none) (.cons (.tup (.cons (.var 2) .nil)) (.cons (.bin .add (.var 2) (.var 2)) (.cons (.lit .non) (.cons (.lit (.int 0)) (.cons (.lit (.bl true)) (.cons (.lit (.str "")) (.cons (.bin .mul (.lit (.str "0")) (.agg .len (.e (.var 2)))) (.cons (.alloc (.disp .nil)) (.cons (.tup (.cons (.tup .nil) .nil)) (.cons (.bin .mul (.tup (.cons (.lit .non) .nil)) (.agg .len (.e (.var 2)))) .nil)))))))))))))))) .nil)))) .nil) .nil) b__law_other_thing_1)
def b__law_spoilt_4 : CSs := (.cons (.ret (.alloc (.disp (.cons (.var 1) (.cons (.var 2) (.cons (.call 42 (.cons (.var 0) (.cons (.var 1) (.cons (.var 3) .nil)))) .nil)))))) .nil)
def b__law_spoilt_3 : CSs := (.cons (.ite (.v (.cmp .eq (.var 4) (.lit (.int 3)))) (.cons (.ret (.alloc (.disp (.cons (.bin .add (.bin .add (.slc (.var 1) .none (.some (.lit (.int 3)))) (.tup (.cons (.ife (.v (.cmp .eq (.idx (.var 1) (.lit (.int 3))) (.lit (.str "cap")))) (.lit (.str "mod")) (.lit (.str "cap"))) .nil))) (.slc (.var 1) (.some (.lit (.int 4))) .none)) (.cons (.var 2) (.cons (.var 3) .nil)))))) .nil) .nil) b__law_spoilt_4)
def b__law_spoilt_2 : CSs := (.cons (.ite (.v (.cmp .eq (.var 4) (.lit (.int 2)))) (.cons (.ret (.call 41 (.cons (.var 0) (.cons (.var 1) (.cons (.var 2) (.cons (.var 3) .nil)))))) .nil) .nil) b__law_spoilt_3)
def b__law_spoilt_1 : CSs := (.cons (.ite (.and (.v (.cmp .eq (.var 4) (.lit (.int 1)))) (.v (.cmp .gt (.agg .len (.e (.idx (.var 2) (.lit (.int 1))))) (.lit (.int 0))))) (.cons (.ret (.call 40 (.cons (.var 0) (.cons (.var 1) (.cons (.var 2) (.cons (.var 3) .nil)))))) .nil) .nil) b__law_spoilt_2)
def b__law_spoilt : CSs := (.cons (.set (.nm 4) (.call 15 (.cons (.var 0) (.cons (.lit (.int 6)) .nil)))) (.cons (.ite (.and (.v (.cmp .eq (.var 4) (.lit (.int 0)))) (.v (.cmp .gt (.agg .len (.e (.idx (.var 2) (.lit (.int 2))))) (.lit (.int 0))))) (.cons (.ret (.call 39 (.cons (.var 0) (.cons (.var 1) (.cons (.var 2) (.cons (.var 3) .nil)))))) .nil) .nil) b__law_spoilt_1))
def b_law_3 : CSs := (.cons (.ite (.not (.v (.call 19 (.cons (.call 11 (.cons (.var 3) (.cons (.var 4) (.cons (.bin .add (.bin .add (.slc (.var 5) .none (.some (.var 6))) (.tup (.cons (.var 7) .nil))) (.slc (.var 5) (.some (.bin .add (.var 6) (.lit (.int 1)))) .none)) .nil)))) (.cons (.lit (.bl false)) .nil))))) (.cons (.ret (.lit (.bl false))) .nil) .nil) .nil)
def b_law_2 : CSs := (.cons (.for (.nm 7) (.r (.q (.disp (.cons (.idx (.var 3) (.lit (.int 1))) (.cons (.neg (.lit (.int 1))) (.cons (.cmp .eq (.idx (.var 5) (.var 6)) (.lit (.int 1))) .nil)))))) b_law_3) .nil)
def b_law_5 : CSs := (.cons (.set (.nm 9) (.call 43 (.cons (.var 1) (.cons (.var 3) (.cons (.var 4) (.cons (.var 5) .nil)))))) (.cons (.ite (.not (.v (.call 37 (.cons (.idx (.var 9) (.lit (.int 0))) (.cons (.idx (.var 9) (.lit (.int 1))) (.cons (.idx (.var 9) (.lit (.int 2))) .nil)))))) (.cons (.ret (.lit (.bl false))) .nil) .nil) .nil))
def b_law_6 : CSs := (.cons (.ret (.call 37 (.cons (.var 3) (.cons (.var 4) (.cons (.var 5) .nil))))) .nil)
def b_law_4 : CSs := (.cons (.for (.nm 8) (.rg (.lit (.int 0)) (.ife (.v (.var 2)) (.lit (.int 4)) (.lit (.int 10)))) b_law_5) b_law_6)
def b_law_1 : CSs := (.cons (.for (.nm 6) (.rg (.lit (.int 0)) (.agg .len (.e (.var 5)))) b_law_2) b_law_4)
def b_law : CSs := (.cons (.set (.nm 1) (.call 14 (.cons (.var 0) .nil))) (.cons (.set (.nm 2) (.call 17 (.cons (.var 1) (.cons (.lit (.int 8)) .nil)))) (.cons (.set (.tup [ 3 , 4 , 5 ]) (.call 35 (.cons (.var 1) (.cons (.var 2) .nil)))) (.cons (.ite (.or (.not (.v (.call 19 (.cons (.call 11 (.cons (.var 3) (.cons (.var 4) (.cons (.var 5) .nil)))) (.cons (.lit (.bl true)) .nil))))) (.not (.v (.call 37 (.cons (.var 3) (.cons (.var 4) (.cons (.var 5) .nil))))))) (.cons (.ret (.lit (.bl false))) .nil) .nil) b_law_1))))
def T : List Fn := (([⟨"is_number", ["thing"], 1, b_is_number⟩,
  ⟨"is_between", ["thing", "low", "high"], 3, b_is_between⟩,
  ⟨"is_tuple", ["thing", "size"], 2, b_is_tuple⟩,
  ⟨"are_numbers", ["thing", "low", "high", "item"], 3, b_are_numbers⟩,
  ⟨"tally", ["pattern", "total"], 2, b_tally⟩,
  ⟨"tallied", ["pattern", "totals", "total"], 2, b_tallied⟩,
  ⟨"spot_row", ["pattern", "mark", "tag", "known", "own", "worth", "tallies"], 3, b_spot_row⟩,
  ⟨"tie_row", ["pattern", "strand", "one", "other", "low", "high", "row"], 4, b_tie_row⟩,
  ⟨"spots_of", ["web"], 1, b_spots_of⟩,
  ⟨"totals_of", ["pattern", "web", "tags", "totals", "one", "other", "strand", "row", "spot"], 3, b_totals_of⟩,
  ⟨"tallies_of", ["pattern", "web", "tags", "totals"], 3, b_tallies_of⟩,
  ⟨"is_lot", ["pattern", "web", "lot", "tallies", "k", "row"], 3, b_is_lot⟩,
  ⟨"worth_of", ["pattern", "web", "lot", "worth", "one", "other", "strand", "k"], 3, b_worth_of⟩,
  ⟨"state_of", ["pattern", "web", "lot"], 3, b_state_of⟩,
  ⟨"_law_begin", ["script", "cell"], 1, b__law_begin⟩,
  ⟨"_law_draw", ["d", "many", "found", "size", "cell"], 2, b__law_draw⟩,
  ⟨"_law_pick", ["d", "row"], 2, b__law_pick⟩,
  ⟨"_law_rare", ["d", "many"], 2, b__law_rare⟩,
  ⟨"_law_is_int", ["thing"], 1, b__law_is_int⟩,
  ⟨"_law_says", ["told", "due"], 2, b__law_says⟩,
  ⟨"_law_letter", ["d"], 1, b__law_letter⟩,
  ⟨"_law_marks", ["d", "many", "marks", "k"], 3, b__law_marks⟩,
  ⟨"_law_tally", ["pattern", "whole"], 2, b__law_tally⟩,
  ⟨"_law_tie_row", ["pattern", "strand", "one", "other", "known", "low", "high", "low_adds", "high_adds", "worth"], 4, b__law_tie_row⟩,
  ⟨"_law_spot_row", ["pattern", "mark", "tag", "known", "own", "worth", "tallies"], 3, b__law_spot_row⟩,
  ⟨"_law_wholes", ["pattern", "ties", "spots", "tags", "wholes", "worth", "one", "other", "strand", "row", "spot"], 4, b__law_wholes⟩,
  ⟨"_law_ended", ["pattern", "arity", "marks", "tags", "wholes", "worth", "tallies", "k", "row", "whole"], 6, b__law_ended⟩,
  ⟨"_law_value", ["pattern", "web", "tags", "told"], 3, b__law_value⟩,
  ⟨"_law_taken", ["d", "row", "many", "left", "k"], 3, b__law_taken⟩,
  ⟨"_law_menu", ["d", "most"], 2, b__law_menu⟩] : List Fn) ++ ([⟨"_law_worth", ["d"], 1, b__law_worth⟩,
  ⟨"_law_subset", ["d", "cap", "mask", "k"], 2, b__law_subset⟩,
  ⟨"_law_tied", ["d", "spots", "many", "strands", "found", "k", "one", "other"], 4, b__law_tied⟩,
  ⟨"_law_planned_ties", ["d", "web", "plan", "tags", "cap", "strands", "needed", "one", "other", "strand", "rows", "low", "high", "first", "second"], 6, b__law_planned_ties⟩,
  ⟨"_law_planned_spots", ["d", "web", "plan", "tallies", "tags", "cap", "marks", "needed", "k", "spot", "row", "rows", "mark", "tag", "due", "more"], 7, b__law_planned_spots⟩,
  ⟨"_law_planned", ["d", "is_large", "arity", "inner", "many", "marks", "strands", "web", "tags", "cap", "start", "plan", "ties", "wholes", "tallies", "whole", "spot"], 2, b__law_planned⟩,
  ⟨"_law_is_choice", ["made", "web", "thing", "tag"], 3, b__law_is_choice⟩,
  ⟨"_law_agrees", ["made", "web", "thing", "is_choice", "value", "told", "due", "worth", "whole"], 3, b__law_agrees⟩,
  ⟨"_law_needed_tie", ["d", "made", "web", "plan", "one", "other", "strand", "place", "row"], 4, b__law_needed_tie⟩,
  ⟨"_law_spoilt_ties", ["d", "made", "web", "plan", "k", "ties", "first", "second"], 4, b__law_spoilt_ties⟩,
  ⟨"_law_spoilt_spots", ["d", "made", "web", "plan", "spot", "spots", "k", "needed", "left", "item", "row"], 4, b__law_spoilt_spots⟩,
  ⟨"_law_spoilt_web", ["d", "made", "web", "plan", "arity", "marks", "ties", "way", "k"], 4, b__law_spoilt_web⟩,
  ⟨"_law_other_thing", ["d", "made", "plan", "k", "tag", "other"], 3, b__law_other_thing⟩,
  ⟨"_law_spoilt", ["d", "made", "web", "plan", "way"], 4, b__law_spoilt⟩,
  ⟨"law", ["script", "d", "is_large", "made", "web", "plan", "k", "tag", "turn", "other"], 1, b_law⟩] : List Fn))
abbrev n_is_number : Nat := 0
abbrev n_is_between : Nat := 1
abbrev n_is_tuple : Nat := 2
abbrev n_are_numbers : Nat := 3
abbrev n_tally : Nat := 4
abbrev n_tallied : Nat := 5
abbrev n_spot_row : Nat := 6
abbrev n_tie_row : Nat := 7
abbrev n_spots_of : Nat := 8
abbrev n_totals_of : Nat := 9
abbrev n_tallies_of : Nat := 10
abbrev n_is_lot : Nat := 11
abbrev n_worth_of : Nat := 12
abbrev n_state_of : Nat := 13
abbrev n__law_begin : Nat := 14
abbrev n__law_draw : Nat := 15
abbrev n__law_pick : Nat := 16
abbrev n__law_rare : Nat := 17
abbrev n__law_is_int : Nat := 18
abbrev n__law_says : Nat := 19
abbrev n__law_letter : Nat := 20
abbrev n__law_marks : Nat := 21
abbrev n__law_tally : Nat := 22
abbrev n__law_tie_row : Nat := 23
abbrev n__law_spot_row : Nat := 24
abbrev n__law_wholes : Nat := 25
abbrev n__law_ended : Nat := 26
abbrev n__law_value : Nat := 27
abbrev n__law_taken : Nat := 28
abbrev n__law_menu : Nat := 29
abbrev n__law_worth : Nat := 30
abbrev n__law_subset : Nat := 31
abbrev n__law_tied : Nat := 32
abbrev n__law_planned_ties : Nat := 33
abbrev n__law_planned_spots : Nat := 34
abbrev n__law_planned : Nat := 35
abbrev n__law_is_choice : Nat := 36
abbrev n__law_agrees : Nat := 37
abbrev n__law_needed_tie : Nat := 38
abbrev n__law_spoilt_ties : Nat := 39
abbrev n__law_spoilt_spots : Nat := 40
abbrev n__law_spoilt_web : Nat := 41
abbrev n__law_other_thing : Nat := 42
abbrev n__law_spoilt : Nat := 43
abbrev n_law : Nat := 44
/-! ### the head -/
@[reducible] def dd (x : Str) (i : Nat) : He.DefD := ⟨(x, none), x, x, defArgs (top i), defBody (top i), defScope (top i), [], []⟩
def fn : List He.DefD := (([dd "is_number" 1, dd "is_between" 2, dd "is_tuple" 3, dd "are_numbers" 4, dd "tally" 6, dd "tallied" 7, dd "spot_row" 8, dd "tie_row" 9, dd "spots_of" 11, dd "totals_of" 13, dd "tallies_of" 14, dd "is_lot" 15, dd "worth_of" 16, dd "state_of" 17, dd "_law_begin" 19, dd "_law_draw" 20, dd "_law_pick" 21, dd "_law_rare" 22, dd "_law_is_int" 23, dd "_law_says" 24, dd "_law_letter" 25, dd "_law_marks" 26, dd "_law_tally" 27, dd "_law_tie_row" 28, dd "_law_spot_row" 29, dd "_law_wholes" 30, dd "_law_ended" 31, dd "_law_value" 32, dd "_law_taken" 33, dd "_law_menu" 34] : List He.DefD) ++ ([dd "_law_worth" 35, dd "_law_subset" 36, dd "_law_tied" 37, dd "_law_planned_ties" 38, dd "_law_planned_spots" 39, dd "_law_planned" 40, dd "_law_is_choice" 41, dd "_law_agrees" 42, dd "_law_needed_tie" 43, dd "_law_spoilt_ties" 44, dd "_law_spoilt_spots" 45, dd "_law_spoilt_web" 46, dd "_law_other_thing" 47, dd "_law_spoilt" 48, dd "law" 49] : List He.DefD))
def fa : List He.Fa := (([.glo "is_number", .glo "is_between", .glo "is_tuple", .glo "are_numbers", .glo "tally", .glo "tallied", .glo "spot_row", .glo "tie_row", .glo "spots_of", .glo "totals_of", .glo "tallies_of", .glo "is_lot", .glo "worth_of", .glo "state_of", .glo "_law_begin", .glo "_law_draw", .glo "_law_pick", .glo "_law_rare", .glo "_law_is_int", .glo "_law_says", .glo "_law_letter", .glo "_law_marks", .glo "_law_tally", .glo "_law_tie_row", .glo "_law_spot_row", .glo "_law_wholes", .glo "_law_ended", .glo "_law_value", .glo "_law_taken", .glo "_law_menu"] : List He.Fa) ++ ([.glo "_law_worth", .glo "_law_subset", .glo "_law_tied", .glo "_law_planned_ties", .glo "_law_planned_spots", .glo "_law_planned", .glo "_law_is_choice", .glo "_law_agrees", .glo "_law_needed_tie", .glo "_law_spoilt_ties", .glo "_law_spoilt_spots", .glo "_law_spoilt_web", .glo "_law_other_thing", .glo "_law_spoilt", .glo "law", .free "len", .free "range", .free "tuple", .free "int", .free "sorted", .free "isinstance", .free "list", .free "min", .free "max", .free "all", .free "set", .free "str", .free "abs", .free "repr", .free "bool"] : List He.Fa))
abbrev R : PySem.W.OpenRow := PySem.W.OpenLaw.row PySem.Challenge.rw_everygrown_k24_lots_judged
abbrev hk : PySem.W.Hook := PQ.hookP 4 fa fn Gs
def ob (s : PySem.W.SharedT) : He.AlD × Bool := PQ.obP 4 fa fn Gs (HandSHeadRun.getT s)
theorem ob_eq (s : PySem.W.SharedT) : ob s = hk.obs s.abs := PQ.obP_eq (HandSHeadRun.getT_eq s)
def loose : List Str := ((["is_number", "is_between", "is_tuple", "are_numbers", "tally", "tallied", "spot_row", "tie_row", "spots_of", "totals_of", "tallies_of", "is_lot", "worth_of", "state_of", "_law_begin", "_law_draw", "_law_pick", "_law_rare", "_law_is_int", "_law_says", "_law_letter", "_law_marks", "_law_tally", "_law_tie_row", "_law_spot_row", "_law_wholes", "_law_ended", "_law_value", "_law_taken", "_law_menu"] : List Str) ++ (["_law_worth", "_law_subset", "_law_tied", "_law_planned_ties", "_law_planned_spots", "_law_planned", "_law_is_choice", "_law_agrees", "_law_needed_tie", "_law_spoilt_ties", "_law_spoilt_spots", "_law_spoilt_web", "_law_other_thing", "_law_spoilt"] : List Str))
theorem run (w : World) : HandSHeadRun.RunEq R (PySem.W.view R.prog [49]) hk ob 12000 loose w := by
  intro os
  kernel_rfl
/-! ### each def is what the language says -/
theorem c_is_number : (cSs 60 60 ⟨names, B, ["thing"], defScope (top 1), Gs⟩ (defBody (top 1))).map (·.val) = some b_is_number := by kernel_rfl
theorem d_is_number {K : PySem.W.Frag} {h : Heap} {mg : Str → Option Value} (X : K.In h) (G : h.Ns mainGlobals mg) (c : He.SaysD fa fn K) : DefOk K mg names B Gs ⟨"is_number", ["thing"], 1, b_is_number⟩ :=
  def_ok (names := names) (B := B) (Gs := Gs) (N := ["thing"]) (ps := ["thing"]) X G c 0 (st := top 1) rfl 0 rfl c_is_number ⟨rfl, rfl, rfl, by decide +kernel, rfl, by decide +kernel, by decide +kernel⟩ rfl fun _ _ _ _ _ _ us hl => match us, hl with | [_], _ => rfl
theorem c_is_between : (cSs 60 60 ⟨names, B, ["thing", "low", "high"], defScope (top 2), Gs⟩ (defBody (top 2))).map (·.val) = some b_is_between := by kernel_rfl
theorem d_is_between {K : PySem.W.Frag} {h : Heap} {mg : Str → Option Value} (X : K.In h) (G : h.Ns mainGlobals mg) (c : He.SaysD fa fn K) : DefOk K mg names B Gs ⟨"is_between", ["thing", "low", "high"], 3, b_is_between⟩ :=
  def_ok (names := names) (B := B) (Gs := Gs) (N := ["thing", "low", "high"]) (ps := ["thing", "low", "high"]) X G c 1 (st := top 2) rfl 1 rfl c_is_between ⟨rfl, rfl, rfl, by decide +kernel, rfl, by decide +kernel, by decide +kernel⟩ rfl fun _ _ _ _ _ _ us hl => match us, hl with | [_, _, _], _ => rfl
theorem c_is_tuple : (cSs 60 60 ⟨names, B, ["thing", "size"], defScope (top 3), Gs⟩ (defBody (top 3))).map (·.val) = some b_is_tuple := by kernel_rfl
theorem d_is_tuple {K : PySem.W.Frag} {h : Heap} {mg : Str → Option Value} (X : K.In h) (G : h.Ns mainGlobals mg) (c : He.SaysD fa fn K) : DefOk K mg names B Gs ⟨"is_tuple", ["thing", "size"], 2, b_is_tuple⟩ :=
  def_ok (names := names) (B := B) (Gs := Gs) (N := ["thing", "size"]) (ps := ["thing", "size"]) X G c 2 (st := top 3) rfl 2 rfl c_is_tuple ⟨rfl, rfl, rfl, by decide +kernel, rfl, by decide +kernel, by decide +kernel⟩ rfl fun _ _ _ _ _ _ us hl => match us, hl with | [_, _], _ => rfl
theorem c_are_numbers : (cSs 60 60 ⟨names, B, ["thing", "low", "high", "item"], defScope (top 4), Gs⟩ (defBody (top 4))).map (·.val) = some b_are_numbers := by kernel_rfl
theorem d_are_numbers {K : PySem.W.Frag} {h : Heap} {mg : Str → Option Value} (X : K.In h) (G : h.Ns mainGlobals mg) (c : He.SaysD fa fn K) : DefOk K mg names B Gs ⟨"are_numbers", ["thing", "low", "high", "item"], 3, b_are_numbers⟩ :=
  def_ok (names := names) (B := B) (Gs := Gs) (N := ["thing", "low", "high", "item"]) (ps := ["thing", "low", "high"]) X G c 3 (st := top 4) rfl 3 rfl c_are_numbers ⟨rfl, rfl, rfl, by decide +kernel, rfl, by decide +kernel, by decide +kernel⟩ rfl fun _ _ _ _ _ _ us hl => match us, hl with | [_, _, _], _ => rfl
theorem c_tally : (cSs 60 60 ⟨names, B, ["pattern", "total"], defScope (top 6), Gs⟩ (defBody (top 6))).map (·.val) = some b_tally := by kernel_rfl
theorem d_tally {K : PySem.W.Frag} {h : Heap} {mg : Str → Option Value} (X : K.In h) (G : h.Ns mainGlobals mg) (c : He.SaysD fa fn K) : DefOk K mg names B Gs ⟨"tally", ["pattern", "total"], 2, b_tally⟩ :=
  def_ok (names := names) (B := B) (Gs := Gs) (N := ["pattern", "total"]) (ps := ["pattern", "total"]) X G c 4 (st := top 6) rfl 4 rfl c_tally ⟨rfl, rfl, rfl, by decide +kernel, rfl, by decide +kernel, by decide +kernel⟩ rfl fun _ _ _ _ _ _ us hl => match us, hl with | [_, _], _ => rfl
theorem c_tallied : (cSs 60 60 ⟨names, B, ["pattern", "totals", "total"], defScope (top 7), Gs⟩ (defBody (top 7))).map (·.val) = some b_tallied := by kernel_rfl
theorem d_tallied {K : PySem.W.Frag} {h : Heap} {mg : Str → Option Value} (X : K.In h) (G : h.Ns mainGlobals mg) (c : He.SaysD fa fn K) : DefOk K mg names B Gs ⟨"tallied", ["pattern", "totals", "total"], 2, b_tallied⟩ :=
  def_ok (names := names) (B := B) (Gs := Gs) (N := ["pattern", "totals", "total"]) (ps := ["pattern", "totals"]) X G c 5 (st := top 7) rfl 5 rfl c_tallied ⟨rfl, rfl, rfl, by decide +kernel, rfl, by decide +kernel, by decide +kernel⟩ rfl fun _ _ _ _ _ _ us hl => match us, hl with | [_, _], _ => rfl
theorem c_spot_row : (cSs 60 60 ⟨names, B, ["pattern", "mark", "tag", "known", "own", "worth", "tallies"], defScope (top 8), Gs⟩ (defBody (top 8))).map (·.val) = some b_spot_row := by kernel_rfl
theorem d_spot_row {K : PySem.W.Frag} {h : Heap} {mg : Str → Option Value} (X : K.In h) (G : h.Ns mainGlobals mg) (c : He.SaysD fa fn K) : DefOk K mg names B Gs ⟨"spot_row", ["pattern", "mark", "tag", "known", "own", "worth", "tallies"], 3, b_spot_row⟩ :=
  def_ok (names := names) (B := B) (Gs := Gs) (N := ["pattern", "mark", "tag", "known", "own", "worth", "tallies"]) (ps := ["pattern", "mark", "tag"]) X G c 6 (st := top 8) rfl 6 rfl c_spot_row ⟨rfl, rfl, rfl, by decide +kernel, rfl, by decide +kernel, by decide +kernel⟩ rfl fun _ _ _ _ _ _ us hl => match us, hl with | [_, _, _], _ => rfl
theorem c_tie_row : (cSs 60 60 ⟨names, B, ["pattern", "strand", "one", "other", "low", "high", "row"], defScope (top 9), Gs⟩ (defBody (top 9))).map (·.val) = some b_tie_row := by kernel_rfl
theorem d_tie_row {K : PySem.W.Frag} {h : Heap} {mg : Str → Option Value} (X : K.In h) (G : h.Ns mainGlobals mg) (c : He.SaysD fa fn K) : DefOk K mg names B Gs ⟨"tie_row", ["pattern", "strand", "one", "other", "low", "high", "row"], 4, b_tie_row⟩ :=
  def_ok (names := names) (B := B) (Gs := Gs) (N := ["pattern", "strand", "one", "other", "low", "high", "row"]) (ps := ["pattern", "strand", "one", "other"]) X G c 7 (st := top 9) rfl 7 rfl c_tie_row ⟨rfl, rfl, rfl, by decide +kernel, rfl, by decide +kernel, by decide +kernel⟩ rfl fun _ _ _ _ _ _ us hl => match us, hl with | [_, _, _, _], _ => rfl
theorem c_spots_of : (cSs 60 60 ⟨names, B, ["web"], defScope (top 11), Gs⟩ (defBody (top 11))).map (·.val) = some b_spots_of := by kernel_rfl
theorem d_spots_of {K : PySem.W.Frag} {h : Heap} {mg : Str → Option Value} (X : K.In h) (G : h.Ns mainGlobals mg) (c : He.SaysD fa fn K) : DefOk K mg names B Gs ⟨"spots_of", ["web"], 1, b_spots_of⟩ :=
  def_ok (names := names) (B := B) (Gs := Gs) (N := ["web"]) (ps := ["web"]) X G c 8 (st := top 11) rfl 8 rfl c_spots_of ⟨rfl, rfl, rfl, by decide +kernel, rfl, by decide +kernel, by decide +kernel⟩ rfl fun _ _ _ _ _ _ us hl => match us, hl with | [_], _ => rfl
theorem c_totals_of : (cSs 60 60 ⟨names, B, ["pattern", "web", "tags", "totals", "one", "other", "strand", "row", "spot"], defScope (top 13), Gs⟩ (defBody (top 13))).map (·.val) = some b_totals_of := by kernel_rfl
theorem d_totals_of {K : PySem.W.Frag} {h : Heap} {mg : Str → Option Value} (X : K.In h) (G : h.Ns mainGlobals mg) (c : He.SaysD fa fn K) : DefOk K mg names B Gs ⟨"totals_of", ["pattern", "web", "tags", "totals", "one", "other", "strand", "row", "spot"], 3, b_totals_of⟩ :=
  def_ok (names := names) (B := B) (Gs := Gs) (N := ["pattern", "web", "tags", "totals", "one", "other", "strand", "row", "spot"]) (ps := ["pattern", "web", "tags"]) X G c 9 (st := top 13) rfl 9 rfl c_totals_of ⟨rfl, rfl, rfl, by decide +kernel, rfl, by decide +kernel, by decide +kernel⟩ rfl fun _ _ _ _ _ _ us hl => match us, hl with | [_, _, _], _ => rfl
theorem c_tallies_of : (cSs 60 60 ⟨names, B, ["pattern", "web", "tags", "totals"], defScope (top 14), Gs⟩ (defBody (top 14))).map (·.val) = some b_tallies_of := by kernel_rfl
theorem d_tallies_of {K : PySem.W.Frag} {h : Heap} {mg : Str → Option Value} (X : K.In h) (G : h.Ns mainGlobals mg) (c : He.SaysD fa fn K) : DefOk K mg names B Gs ⟨"tallies_of", ["pattern", "web", "tags", "totals"], 3, b_tallies_of⟩ :=
  def_ok (names := names) (B := B) (Gs := Gs) (N := ["pattern", "web", "tags", "totals"]) (ps := ["pattern", "web", "tags"]) X G c 10 (st := top 14) rfl 10 rfl c_tallies_of ⟨rfl, rfl, rfl, by decide +kernel, rfl, by decide +kernel, by decide +kernel⟩ rfl fun _ _ _ _ _ _ us hl => match us, hl with | [_, _, _], _ => rfl
theorem c_is_lot : (cSs 60 60 ⟨names, B, ["pattern", "web", "lot", "tallies", "k", "row"], defScope (top 15), Gs⟩ (defBody (top 15))).map (·.val) = some b_is_lot := by kernel_rfl
theorem d_is_lot {K : PySem.W.Frag} {h : Heap} {mg : Str → Option Value} (X : K.In h) (G : h.Ns mainGlobals mg) (c : He.SaysD fa fn K) : DefOk K mg names B Gs ⟨"is_lot", ["pattern", "web", "lot", "tallies", "k", "row"], 3, b_is_lot⟩ :=
  def_ok (names := names) (B := B) (Gs := Gs) (N := ["pattern", "web", "lot", "tallies", "k", "row"]) (ps := ["pattern", "web", "lot"]) X G c 11 (st := top 15) rfl 11 rfl c_is_lot ⟨rfl, rfl, rfl, by decide +kernel, rfl, by decide +kernel, by decide +kernel⟩ rfl fun _ _ _ _ _ _ us hl => match us, hl with | [_, _, _], _ => rfl
theorem c_worth_of : (cSs 60 60 ⟨names, B, ["pattern", "web", "lot", "worth", "one", "other", "strand", "k"], defScope (top 16), Gs⟩ (defBody (top 16))).map (·.val) = some b_worth_of := by kernel_rfl
theorem d_worth_of {K : PySem.W.Frag} {h : Heap} {mg : Str → Option Value} (X : K.In h) (G : h.Ns mainGlobals mg) (c : He.SaysD fa fn K) : DefOk K mg names B Gs ⟨"worth_of", ["pattern", "web", "lot", "worth", "one", "other", "strand", "k"], 3, b_worth_of⟩ :=
  def_ok (names := names) (B := B) (Gs := Gs) (N := ["pattern", "web", "lot", "worth", "one", "other", "strand", "k"]) (ps := ["pattern", "web", "lot"]) X G c 12 (st := top 16) rfl 12 rfl c_worth_of ⟨rfl, rfl, rfl, by decide +kernel, rfl, by decide +kernel, by decide +kernel⟩ rfl fun _ _ _ _ _ _ us hl => match us, hl with | [_, _, _], _ => rfl
theorem c_state_of : (cSs 60 60 ⟨names, B, ["pattern", "web", "lot"], defScope (top 17), Gs⟩ (defBody (top 17))).map (·.val) = some b_state_of := by kernel_rfl
theorem d_state_of {K : PySem.W.Frag} {h : Heap} {mg : Str → Option Value} (X : K.In h) (G : h.Ns mainGlobals mg) (c : He.SaysD fa fn K) : DefOk K mg names B Gs ⟨"state_of", ["pattern", "web", "lot"], 3, b_state_of⟩ :=
  def_ok (names := names) (B := B) (Gs := Gs) (N := ["pattern", "web", "lot"]) (ps := ["pattern", "web", "lot"]) X G c 13 (st := top 17) rfl 13 rfl c_state_of ⟨rfl, rfl, rfl, by decide +kernel, rfl, by decide +kernel, by decide +kernel⟩ rfl fun _ _ _ _ _ _ us hl => match us, hl with | [_, _, _], _ => rfl
theorem c__law_begin : (cSs 60 60 ⟨names, B, ["script", "cell"], defScope (top 19), Gs⟩ (defBody (top 19))).map (·.val) = some b__law_begin := by kernel_rfl
theorem d__law_begin {K : PySem.W.Frag} {h : Heap} {mg : Str → Option Value} (X : K.In h) (G : h.Ns mainGlobals mg) (c : He.SaysD fa fn K) : DefOk K mg names B Gs ⟨"_law_begin", ["script", "cell"], 1, b__law_begin⟩ :=
  def_ok (names := names) (B := B) (Gs := Gs) (N := ["script", "cell"]) (ps := ["script"]) X G c 14 (st := top 19) rfl 14 rfl c__law_begin ⟨rfl, rfl, rfl, by decide +kernel, rfl, by decide +kernel, by decide +kernel⟩ rfl fun _ _ _ _ _ _ us hl => match us, hl with | [_], _ => rfl
theorem c__law_draw : (cSs 60 60 ⟨names, B, ["d", "many", "found", "size", "cell"], defScope (top 20), Gs⟩ (defBody (top 20))).map (·.val) = some b__law_draw := by kernel_rfl
theorem d__law_draw {K : PySem.W.Frag} {h : Heap} {mg : Str → Option Value} (X : K.In h) (G : h.Ns mainGlobals mg) (c : He.SaysD fa fn K) : DefOk K mg names B Gs ⟨"_law_draw", ["d", "many", "found", "size", "cell"], 2, b__law_draw⟩ :=
  def_ok (names := names) (B := B) (Gs := Gs) (N := ["d", "many", "found", "size", "cell"]) (ps := ["d", "many"]) X G c 15 (st := top 20) rfl 15 rfl c__law_draw ⟨rfl, rfl, rfl, by decide +kernel, rfl, by decide +kernel, by decide +kernel⟩ rfl fun _ _ _ _ _ _ us hl => match us, hl with | [_, _], _ => rfl
theorem c__law_pick : (cSs 60 60 ⟨names, B, ["d", "row"], defScope (top 21), Gs⟩ (defBody (top 21))).map (·.val) = some b__law_pick := by kernel_rfl
theorem d__law_pick {K : PySem.W.Frag} {h : Heap} {mg : Str → Option Value} (X : K.In h) (G : h.Ns mainGlobals mg) (c : He.SaysD fa fn K) : DefOk K mg names B Gs ⟨"_law_pick", ["d", "row"], 2, b__law_pick⟩ :=
  def_ok (names := names) (B := B) (Gs := Gs) (N := ["d", "row"]) (ps := ["d", "row"]) X G c 16 (st := top 21) rfl 16 rfl c__law_pick ⟨rfl, rfl, rfl, by decide +kernel, rfl, by decide +kernel, by decide +kernel⟩ rfl fun _ _ _ _ _ _ us hl => match us, hl with | [_, _], _ => rfl
theorem c__law_rare : (cSs 60 60 ⟨names, B, ["d", "many"], defScope (top 22), Gs⟩ (defBody (top 22))).map (·.val) = some b__law_rare := by kernel_rfl
theorem d__law_rare {K : PySem.W.Frag} {h : Heap} {mg : Str → Option Value} (X : K.In h) (G : h.Ns mainGlobals mg) (c : He.SaysD fa fn K) : DefOk K mg names B Gs ⟨"_law_rare", ["d", "many"], 2, b__law_rare⟩ :=
  def_ok (names := names) (B := B) (Gs := Gs) (N := ["d", "many"]) (ps := ["d", "many"]) X G c 17 (st := top 22) rfl 17 rfl c__law_rare ⟨rfl, rfl, rfl, by decide +kernel, rfl, by decide +kernel, by decide +kernel⟩ rfl fun _ _ _ _ _ _ us hl => match us, hl with | [_, _], _ => rfl
theorem c__law_is_int : (cSs 60 60 ⟨names, B, ["thing"], defScope (top 23), Gs⟩ (defBody (top 23))).map (·.val) = some b__law_is_int := by kernel_rfl
theorem d__law_is_int {K : PySem.W.Frag} {h : Heap} {mg : Str → Option Value} (X : K.In h) (G : h.Ns mainGlobals mg) (c : He.SaysD fa fn K) : DefOk K mg names B Gs ⟨"_law_is_int", ["thing"], 1, b__law_is_int⟩ :=
  def_ok (names := names) (B := B) (Gs := Gs) (N := ["thing"]) (ps := ["thing"]) X G c 18 (st := top 23) rfl 18 rfl c__law_is_int ⟨rfl, rfl, rfl, by decide +kernel, rfl, by decide +kernel, by decide +kernel⟩ rfl fun _ _ _ _ _ _ us hl => match us, hl with | [_], _ => rfl
theorem c__law_says : (cSs 60 60 ⟨names, B, ["told", "due"], defScope (top 24), Gs⟩ (defBody (top 24))).map (·.val) = some b__law_says := by kernel_rfl
theorem d__law_says {K : PySem.W.Frag} {h : Heap} {mg : Str → Option Value} (X : K.In h) (G : h.Ns mainGlobals mg) (c : He.SaysD fa fn K) : DefOk K mg names B Gs ⟨"_law_says", ["told", "due"], 2, b__law_says⟩ :=
  def_ok (names := names) (B := B) (Gs := Gs) (N := ["told", "due"]) (ps := ["told", "due"]) X G c 19 (st := top 24) rfl 19 rfl c__law_says ⟨rfl, rfl, rfl, by decide +kernel, rfl, by decide +kernel, by decide +kernel⟩ rfl fun _ _ _ _ _ _ us hl => match us, hl with | [_, _], _ => rfl
theorem c__law_letter : (cSs 60 60 ⟨names, B, ["d"], defScope (top 25), Gs⟩ (defBody (top 25))).map (·.val) = some b__law_letter := by kernel_rfl
theorem d__law_letter {K : PySem.W.Frag} {h : Heap} {mg : Str → Option Value} (X : K.In h) (G : h.Ns mainGlobals mg) (c : He.SaysD fa fn K) : DefOk K mg names B Gs ⟨"_law_letter", ["d"], 1, b__law_letter⟩ :=
  def_ok (names := names) (B := B) (Gs := Gs) (N := ["d"]) (ps := ["d"]) X G c 20 (st := top 25) rfl 20 rfl c__law_letter ⟨rfl, rfl, rfl, by decide +kernel, rfl, by decide +kernel, by decide +kernel⟩ rfl fun _ _ _ _ _ _ us hl => match us, hl with | [_], _ => rfl
theorem c__law_marks : (cSs 60 60 ⟨names, B, ["d", "many", "marks", "k"], defScope (top 26), Gs⟩ (defBody (top 26))).map (·.val) = some b__law_marks := by kernel_rfl
theorem d__law_marks {K : PySem.W.Frag} {h : Heap} {mg : Str → Option Value} (X : K.In h) (G : h.Ns mainGlobals mg) (c : He.SaysD fa fn K) : DefOk K mg names B Gs ⟨"_law_marks", ["d", "many", "marks", "k"], 3, b__law_marks⟩ :=
  def_ok (names := names) (B := B) (Gs := Gs) (N := ["d", "many", "marks", "k"]) (ps := ["d", "many", "marks"]) X G c 21 (st := top 26) rfl 21 rfl c__law_marks ⟨rfl, rfl, rfl, by decide +kernel, rfl, by decide +kernel, by decide +kernel⟩ rfl fun _ _ _ _ _ _ us hl => match us, hl with | [_, _, _], _ => rfl
theorem c__law_tally : (cSs 60 60 ⟨names, B, ["pattern", "whole"], defScope (top 27), Gs⟩ (defBody (top 27))).map (·.val) = some b__law_tally := by kernel_rfl
theorem d__law_tally {K : PySem.W.Frag} {h : Heap} {mg : Str → Option Value} (X : K.In h) (G : h.Ns mainGlobals mg) (c : He.SaysD fa fn K) : DefOk K mg names B Gs ⟨"_law_tally", ["pattern", "whole"], 2, b__law_tally⟩ :=
  def_ok (names := names) (B := B) (Gs := Gs) (N := ["pattern", "whole"]) (ps := ["pattern", "whole"]) X G c 22 (st := top 27) rfl 22 rfl c__law_tally ⟨rfl, rfl, rfl, by decide +kernel, rfl, by decide +kernel, by decide +kernel⟩ rfl fun _ _ _ _ _ _ us hl => match us, hl with | [_, _], _ => rfl
theorem c__law_tie_row : (cSs 60 60 ⟨names, B, ["pattern", "strand", "one", "other", "known", "low", "high", "low_adds", "high_adds", "worth"], defScope (top 28), Gs⟩ (defBody (top 28))).map (·.val) = some b__law_tie_row := by kernel_rfl
theorem d__law_tie_row {K : PySem.W.Frag} {h : Heap} {mg : Str → Option Value} (X : K.In h) (G : h.Ns mainGlobals mg) (c : He.SaysD fa fn K) : DefOk K mg names B Gs ⟨"_law_tie_row", ["pattern", "strand", "one", "other", "known", "low", "high", "low_adds", "high_adds", "worth"], 4, b__law_tie_row⟩ :=
  def_ok (names := names) (B := B) (Gs := Gs) (N := ["pattern", "strand", "one", "other", "known", "low", "high", "low_adds", "high_adds", "worth"]) (ps := ["pattern", "strand", "one", "other"]) X G c 23 (st := top 28) rfl 23 rfl c__law_tie_row ⟨rfl, rfl, rfl, by decide +kernel, rfl, by decide +kernel, by decide +kernel⟩ rfl fun _ _ _ _ _ _ us hl => match us, hl with | [_, _, _, _], _ => rfl
theorem c__law_spot_row : (cSs 60 60 ⟨names, B, ["pattern", "mark", "tag", "known", "own", "worth", "tallies"], defScope (top 29), Gs⟩ (defBody (top 29))).map (·.val) = some b__law_spot_row := by kernel_rfl
theorem d__law_spot_row {K : PySem.W.Frag} {h : Heap} {mg : Str → Option Value} (X : K.In h) (G : h.Ns mainGlobals mg) (c : He.SaysD fa fn K) : DefOk K mg names B Gs ⟨"_law_spot_row", ["pattern", "mark", "tag", "known", "own", "worth", "tallies"], 3, b__law_spot_row⟩ :=
  def_ok (names := names) (B := B) (Gs := Gs) (N := ["pattern", "mark", "tag", "known", "own", "worth", "tallies"]) (ps := ["pattern", "mark", "tag"]) X G c 24 (st := top 29) rfl 24 rfl c__law_spot_row ⟨rfl, rfl, rfl, by decide +kernel, rfl, by decide +kernel, by decide +kernel⟩ rfl fun _ _ _ _ _ _ us hl => match us, hl with | [_, _, _], _ => rfl
theorem c__law_wholes : (cSs 60 60 ⟨names, B, ["pattern", "ties", "spots", "tags", "wholes", "worth", "one", "other", "strand", "row", "spot"], defScope (top 30), Gs⟩ (defBody (top 30))).map (·.val) = some b__law_wholes := by kernel_rfl
theorem d__law_wholes {K : PySem.W.Frag} {h : Heap} {mg : Str → Option Value} (X : K.In h) (G : h.Ns mainGlobals mg) (c : He.SaysD fa fn K) : DefOk K mg names B Gs ⟨"_law_wholes", ["pattern", "ties", "spots", "tags", "wholes", "worth", "one", "other", "strand", "row", "spot"], 4, b__law_wholes⟩ :=
  def_ok (names := names) (B := B) (Gs := Gs) (N := ["pattern", "ties", "spots", "tags", "wholes", "worth", "one", "other", "strand", "row", "spot"]) (ps := ["pattern", "ties", "spots", "tags"]) X G c 25 (st := top 30) rfl 25 rfl c__law_wholes ⟨rfl, rfl, rfl, by decide +kernel, rfl, by decide +kernel, by decide +kernel⟩ rfl fun _ _ _ _ _ _ us hl => match us, hl with | [_, _, _, _], _ => rfl
theorem c__law_ended : (cSs 60 60 ⟨names, B, ["pattern", "arity", "marks", "tags", "wholes", "worth", "tallies", "k", "row", "whole"], defScope (top 31), Gs⟩ (defBody (top 31))).map (·.val) = some b__law_ended := by kernel_rfl
theorem d__law_ended {K : PySem.W.Frag} {h : Heap} {mg : Str → Option Value} (X : K.In h) (G : h.Ns mainGlobals mg) (c : He.SaysD fa fn K) : DefOk K mg names B Gs ⟨"_law_ended", ["pattern", "arity", "marks", "tags", "wholes", "worth", "tallies", "k", "row", "whole"], 6, b__law_ended⟩ :=
  def_ok (names := names) (B := B) (Gs := Gs) (N := ["pattern", "arity", "marks", "tags", "wholes", "worth", "tallies", "k", "row", "whole"]) (ps := ["pattern", "arity", "marks", "tags", "wholes", "worth"]) X G c 26 (st := top 31) rfl 26 rfl c__law_ended ⟨rfl, rfl, rfl, by decide +kernel, rfl, by decide +kernel, by decide +kernel⟩ rfl fun _ _ _ _ _ _ us hl => match us, hl with | [_, _, _, _, _, _], _ => rfl
theorem c__law_value : (cSs 60 60 ⟨names, B, ["pattern", "web", "tags", "told"], defScope (top 32), Gs⟩ (defBody (top 32))).map (·.val) = some b__law_value := by kernel_rfl
theorem d__law_value {K : PySem.W.Frag} {h : Heap} {mg : Str → Option Value} (X : K.In h) (G : h.Ns mainGlobals mg) (c : He.SaysD fa fn K) : DefOk K mg names B Gs ⟨"_law_value", ["pattern", "web", "tags", "told"], 3, b__law_value⟩ :=
  def_ok (names := names) (B := B) (Gs := Gs) (N := ["pattern", "web", "tags", "told"]) (ps := ["pattern", "web", "tags"]) X G c 27 (st := top 32) rfl 27 rfl c__law_value ⟨rfl, rfl, rfl, by decide +kernel, rfl, by decide +kernel, by decide +kernel⟩ rfl fun _ _ _ _ _ _ us hl => match us, hl with | [_, _, _], _ => rfl
theorem c__law_taken : (cSs 60 60 ⟨names, B, ["d", "row", "many", "left", "k"], defScope (top 33), Gs⟩ (defBody (top 33))).map (·.val) = some b__law_taken := by kernel_rfl
theorem d__law_taken {K : PySem.W.Frag} {h : Heap} {mg : Str → Option Value} (X : K.In h) (G : h.Ns mainGlobals mg) (c : He.SaysD fa fn K) : DefOk K mg names B Gs ⟨"_law_taken", ["d", "row", "many", "left", "k"], 3, b__law_taken⟩ :=
  def_ok (names := names) (B := B) (Gs := Gs) (N := ["d", "row", "many", "left", "k"]) (ps := ["d", "row", "many"]) X G c 28 (st := top 33) rfl 28 rfl c__law_taken ⟨rfl, rfl, rfl, by decide +kernel, rfl, by decide +kernel, by decide +kernel⟩ rfl fun _ _ _ _ _ _ us hl => match us, hl with | [_, _, _], _ => rfl
theorem c__law_menu : (cSs 60 60 ⟨names, B, ["d", "most"], defScope (top 34), Gs⟩ (defBody (top 34))).map (·.val) = some b__law_menu := by kernel_rfl
theorem d__law_menu {K : PySem.W.Frag} {h : Heap} {mg : Str → Option Value} (X : K.In h) (G : h.Ns mainGlobals mg) (c : He.SaysD fa fn K) : DefOk K mg names B Gs ⟨"_law_menu", ["d", "most"], 2, b__law_menu⟩ :=
  def_ok (names := names) (B := B) (Gs := Gs) (N := ["d", "most"]) (ps := ["d", "most"]) X G c 29 (st := top 34) rfl 29 rfl c__law_menu ⟨rfl, rfl, rfl, by decide +kernel, rfl, by decide +kernel, by decide +kernel⟩ rfl fun _ _ _ _ _ _ us hl => match us, hl with | [_, _], _ => rfl
theorem c__law_worth : (cSs 60 60 ⟨names, B, ["d"], defScope (top 35), Gs⟩ (defBody (top 35))).map (·.val) = some b__law_worth := by kernel_rfl
theorem d__law_worth {K : PySem.W.Frag} {h : Heap} {mg : Str → Option Value} (X : K.In h) (G : h.Ns mainGlobals mg) (c : He.SaysD fa fn K) : DefOk K mg names B Gs ⟨"_law_worth", ["d"], 1, b__law_worth⟩ :=
  def_ok (names := names) (B := B) (Gs := Gs) (N := ["d"]) (ps := ["d"]) X G c 30 (st := top 35) rfl 30 rfl c__law_worth ⟨rfl, rfl, rfl, by decide +kernel, rfl, by decide +kernel, by decide +kernel⟩ rfl fun _ _ _ _ _ _ us hl => match us, hl with | [_], _ => rfl
theorem c__law_subset : (cSs 60 60 ⟨names, B, ["d", "cap", "mask", "k"], defScope (top 36), Gs⟩ (defBody (top 36))).map (·.val) = some b__law_subset := by kernel_rfl
theorem d__law_subset {K : PySem.W.Frag} {h : Heap} {mg : Str → Option Value} (X : K.In h) (G : h.Ns mainGlobals mg) (c : He.SaysD fa fn K) : DefOk K mg names B Gs ⟨"_law_subset", ["d", "cap", "mask", "k"], 2, b__law_subset⟩ :=
  def_ok (names := names) (B := B) (Gs := Gs) (N := ["d", "cap", "mask", "k"]) (ps := ["d", "cap"]) X G c 31 (st := top 36) rfl 31 rfl c__law_subset ⟨rfl, rfl, rfl, by decide +kernel, rfl, by decide +kernel, by decide +kernel⟩ rfl fun _ _ _ _ _ _ us hl => match us, hl with | [_, _], _ => rfl
theorem c__law_tied : (cSs 60 60 ⟨names, B, ["d", "spots", "many", "strands", "found", "k", "one", "other"], defScope (top 37), Gs⟩ (defBody (top 37))).map (·.val) = some b__law_tied := by kernel_rfl
theorem d__law_tied {K : PySem.W.Frag} {h : Heap} {mg : Str → Option Value} (X : K.In h) (G : h.Ns mainGlobals mg) (c : He.SaysD fa fn K) : DefOk K mg names B Gs ⟨"_law_tied", ["d", "spots", "many", "strands", "found", "k", "one", "other"], 4, b__law_tied⟩ :=
  def_ok (names := names) (B := B) (Gs := Gs) (N := ["d", "spots", "many", "strands", "found", "k", "one", "other"]) (ps := ["d", "spots", "many", "strands"]) X G c 32 (st := top 37) rfl 32 rfl c__law_tied ⟨rfl, rfl, rfl, by decide +kernel, rfl, by decide +kernel, by decide +kernel⟩ rfl fun _ _ _ _ _ _ us hl => match us, hl with | [_, _, _, _], _ => rfl
theorem c__law_planned_ties : (cSs 60 60 ⟨names, B, ["d", "web", "plan", "tags", "cap", "strands", "needed", "one", "other", "strand", "rows", "low", "high", "first", "second"], defScope (top 38), Gs⟩ (defBody (top 38))).map (·.val) = some b__law_planned_ties := by kernel_rfl
theorem d__law_planned_ties {K : PySem.W.Frag} {h : Heap} {mg : Str → Option Value} (X : K.In h) (G : h.Ns mainGlobals mg) (c : He.SaysD fa fn K) : DefOk K mg names B Gs ⟨"_law_planned_ties", ["d", "web", "plan", "tags", "cap", "strands", "needed", "one", "other", "strand", "rows", "low", "high", "first", "second"], 6, b__law_planned_ties⟩ :=
  def_ok (names := names) (B := B) (Gs := Gs) (N := ["d", "web", "plan", "tags", "cap", "strands", "needed", "one", "other", "strand", "rows", "low", "high", "first", "second"]) (ps := ["d", "web", "plan", "tags", "cap", "strands"]) X G c 33 (st := top 38) rfl 33 rfl c__law_planned_ties ⟨rfl, rfl, rfl, by decide +kernel, rfl, by decide +kernel, by decide +kernel⟩ rfl fun _ _ _ _ _ _ us hl => match us, hl with | [_, _, _, _, _, _], _ => rfl
theorem c__law_planned_spots : (cSs 60 60 ⟨names, B, ["d", "web", "plan", "tallies", "tags", "cap", "marks", "needed", "k", "spot", "row", "rows", "mark", "tag", "due", "more"], defScope (top 39), Gs⟩ (defBody (top 39))).map (·.val) = some b__law_planned_spots := by kernel_rfl
theorem d__law_planned_spots {K : PySem.W.Frag} {h : Heap} {mg : Str → Option Value} (X : K.In h) (G : h.Ns mainGlobals mg) (c : He.SaysD fa fn K) : DefOk K mg names B Gs ⟨"_law_planned_spots", ["d", "web", "plan", "tallies", "tags", "cap", "marks", "needed", "k", "spot", "row", "rows", "mark", "tag", "due", "more"], 7, b__law_planned_spots⟩ :=
  def_ok (names := names) (B := B) (Gs := Gs) (N := ["d", "web", "plan", "tallies", "tags", "cap", "marks", "needed", "k", "spot", "row", "rows", "mark", "tag", "due", "more"]) (ps := ["d", "web", "plan", "tallies", "tags", "cap", "marks"]) X G c 34 (st := top 39) rfl 34 rfl c__law_planned_spots ⟨rfl, rfl, rfl, by decide +kernel, rfl, by decide +kernel, by decide +kernel⟩ rfl fun _ _ _ _ _ _ us hl => match us, hl with | [_, _, _, _, _, _, _], _ => rfl
theorem c__law_planned : (cSs 60 60 ⟨names, B, ["d", "is_large", "arity", "inner", "many", "marks", "strands", "web", "tags", "cap", "start", "plan", "ties", "wholes", "tallies", "whole", "spot"], defScope (top 40), Gs⟩ (defBody (top 40))).map (·.val) = some b__law_planned := by kernel_rfl
theorem d__law_planned {K : PySem.W.Frag} {h : Heap} {mg : Str → Option Value} (X : K.In h) (G : h.Ns mainGlobals mg) (c : He.SaysD fa fn K) : DefOk K mg names B Gs ⟨"_law_planned", ["d", "is_large", "arity", "inner", "many", "marks", "strands", "web", "tags", "cap", "start", "plan", "ties", "wholes", "tallies", "whole", "spot"], 2, b__law_planned⟩ :=
  def_ok (names := names) (B := B) (Gs := Gs) (N := ["d", "is_large", "arity", "inner", "many", "marks", "strands", "web", "tags", "cap", "start", "plan", "ties", "wholes", "tallies", "whole", "spot"]) (ps := ["d", "is_large"]) X G c 35 (st := top 40) rfl 35 rfl c__law_planned ⟨rfl, rfl, rfl, by decide +kernel, rfl, by decide +kernel, by decide +kernel⟩ rfl fun _ _ _ _ _ _ us hl => match us, hl with | [_, _], _ => rfl
theorem c__law_is_choice : (cSs 60 60 ⟨names, B, ["made", "web", "thing", "tag"], defScope (top 41), Gs⟩ (defBody (top 41))).map (·.val) = some b__law_is_choice := by kernel_rfl
theorem d__law_is_choice {K : PySem.W.Frag} {h : Heap} {mg : Str → Option Value} (X : K.In h) (G : h.Ns mainGlobals mg) (c : He.SaysD fa fn K) : DefOk K mg names B Gs ⟨"_law_is_choice", ["made", "web", "thing", "tag"], 3, b__law_is_choice⟩ :=
  def_ok (names := names) (B := B) (Gs := Gs) (N := ["made", "web", "thing", "tag"]) (ps := ["made", "web", "thing"]) X G c 36 (st := top 41) rfl 36 rfl c__law_is_choice ⟨rfl, rfl, rfl, by decide +kernel, rfl, by decide +kernel, by decide +kernel⟩ rfl fun _ _ _ _ _ _ us hl => match us, hl with | [_, _, _], _ => rfl
theorem c__law_agrees : (cSs 60 60 ⟨names, B, ["made", "web", "thing", "is_choice", "value", "told", "due", "worth", "whole"], defScope (top 42), Gs⟩ (defBody (top 42))).map (·.val) = some b__law_agrees := by kernel_rfl
theorem d__law_agrees {K : PySem.W.Frag} {h : Heap} {mg : Str → Option Value} (X : K.In h) (G : h.Ns mainGlobals mg) (c : He.SaysD fa fn K) : DefOk K mg names B Gs ⟨"_law_agrees", ["made", "web", "thing", "is_choice", "value", "told", "due", "worth", "whole"], 3, b__law_agrees⟩ :=
  def_ok (names := names) (B := B) (Gs := Gs) (N := ["made", "web", "thing", "is_choice", "value", "told", "due", "worth", "whole"]) (ps := ["made", "web", "thing"]) X G c 37 (st := top 42) rfl 37 rfl c__law_agrees ⟨rfl, rfl, rfl, by decide +kernel, rfl, by decide +kernel, by decide +kernel⟩ rfl fun _ _ _ _ _ _ us hl => match us, hl with | [_, _, _], _ => rfl
theorem c__law_needed_tie : (cSs 60 60 ⟨names, B, ["d", "made", "web", "plan", "one", "other", "strand", "place", "row"], defScope (top 43), Gs⟩ (defBody (top 43))).map (·.val) = some b__law_needed_tie := by kernel_rfl
theorem d__law_needed_tie {K : PySem.W.Frag} {h : Heap} {mg : Str → Option Value} (X : K.In h) (G : h.Ns mainGlobals mg) (c : He.SaysD fa fn K) : DefOk K mg names B Gs ⟨"_law_needed_tie", ["d", "made", "web", "plan", "one", "other", "strand", "place", "row"], 4, b__law_needed_tie⟩ :=
  def_ok (names := names) (B := B) (Gs := Gs) (N := ["d", "made", "web", "plan", "one", "other", "strand", "place", "row"]) (ps := ["d", "made", "web", "plan"]) X G c 38 (st := top 43) rfl 38 rfl c__law_needed_tie ⟨rfl, rfl, rfl, by decide +kernel, rfl, by decide +kernel, by decide +kernel⟩ rfl fun _ _ _ _ _ _ us hl => match us, hl with | [_, _, _, _], _ => rfl
theorem c__law_spoilt_ties : (cSs 60 60 ⟨names, B, ["d", "made", "web", "plan", "k", "ties", "first", "second"], defScope (top 44), Gs⟩ (defBody (top 44))).map (·.val) = some b__law_spoilt_ties := by kernel_rfl
theorem d__law_spoilt_ties {K : PySem.W.Frag} {h : Heap} {mg : Str → Option Value} (X : K.In h) (G : h.Ns mainGlobals mg) (c : He.SaysD fa fn K) : DefOk K mg names B Gs ⟨"_law_spoilt_ties", ["d", "made", "web", "plan", "k", "ties", "first", "second"], 4, b__law_spoilt_ties⟩ :=
  def_ok (names := names) (B := B) (Gs := Gs) (N := ["d", "made", "web", "plan", "k", "ties", "first", "second"]) (ps := ["d", "made", "web", "plan"]) X G c 39 (st := top 44) rfl 39 rfl c__law_spoilt_ties ⟨rfl, rfl, rfl, by decide +kernel, rfl, by decide +kernel, by decide +kernel⟩ rfl fun _ _ _ _ _ _ us hl => match us, hl with | [_, _, _, _], _ => rfl
theorem c__law_spoilt_spots : (cSs 60 60 ⟨names, B, ["d", "made", "web", "plan", "spot", "spots", "k", "needed", "left", "item", "row"], defScope (top 45), Gs⟩ (defBody (top 45))).map (·.val) = some b__law_spoilt_spots := by kernel_rfl
theorem d__law_spoilt_spots {K : PySem.W.Frag} {h : Heap} {mg : Str → Option Value} (X : K.In h) (G : h.Ns mainGlobals mg) (c : He.SaysD fa fn K) : DefOk K mg names B Gs ⟨"_law_spoilt_spots", ["d", "made", "web", "plan", "spot", "spots", "k", "needed", "left", "item", "row"], 4, b__law_spoilt_spots⟩ :=
  def_ok (names := names) (B := B) (Gs := Gs) (N := ["d", "made", "web", "plan", "spot", "spots", "k", "needed", "left", "item", "row"]) (ps := ["d", "made", "web", "plan"]) X G c 40 (st := top 45) rfl 40 rfl c__law_spoilt_spots ⟨rfl, rfl, rfl, by decide +kernel, rfl, by decide +kernel, by decide +kernel⟩ rfl fun _ _ _ _ _ _ us hl => match us, hl with | [_, _, _, _], _ => rfl
theorem c__law_spoilt_web : (cSs 60 60 ⟨names, B, ["d", "made", "web", "plan", "arity", "marks", "ties", "way", "k"], defScope (top 46), Gs⟩ (defBody (top 46))).map (·.val) = some b__law_spoilt_web := by kernel_rfl
theorem d__law_spoilt_web {K : PySem.W.Frag} {h : Heap} {mg : Str → Option Value} (X : K.In h) (G : h.Ns mainGlobals mg) (c : He.SaysD fa fn K) : DefOk K mg names B Gs ⟨"_law_spoilt_web", ["d", "made", "web", "plan", "arity", "marks", "ties", "way", "k"], 4, b__law_spoilt_web⟩ :=
  def_ok (names := names) (B := B) (Gs := Gs) (N := ["d", "made", "web", "plan", "arity", "marks", "ties", "way", "k"]) (ps := ["d", "made", "web", "plan"]) X G c 41 (st := top 46) rfl 41 rfl c__law_spoilt_web ⟨rfl, rfl, rfl, by decide +kernel, rfl, by decide +kernel, by decide +kernel⟩ rfl fun _ _ _ _ _ _ us hl => match us, hl with | [_, _, _, _], _ => rfl
theorem c__law_other_thing : (cSs 60 60 ⟨names, B, ["d", "made", "plan", "k", "tag", "other"], defScope (top 47), Gs⟩ (defBody (top 47))).map (·.val) = some b__law_other_thing := by kernel_rfl
theorem d__law_other_thing {K : PySem.W.Frag} {h : Heap} {mg : Str → Option Value} (X : K.In h) (G : h.Ns mainGlobals mg) (c : He.SaysD fa fn K) : DefOk K mg names B Gs ⟨"_law_other_thing", ["d", "made", "plan", "k", "tag", "other"], 3, b__law_other_thing⟩ :=
  def_ok (names := names) (B := B) (Gs := Gs) (N := ["d", "made", "plan", "k", "tag", "other"]) (ps := ["d", "made", "plan"]) X G c 42 (st := top 47) rfl 42 rfl c__law_other_thing ⟨rfl, rfl, rfl, by decide +kernel, rfl, by decide +kernel, by decide +kernel⟩ rfl fun _ _ _ _ _ _ us hl => match us, hl with | [_, _, _], _ => rfl
theorem c__law_spoilt : (cSs 60 60 ⟨names, B, ["d", "made", "web", "plan", "way"], defScope (top 48), Gs⟩ (defBody (top 48))).map (·.val) = some b__law_spoilt := by kernel_rfl
theorem d__law_spoilt {K : PySem.W.Frag} {h : Heap} {mg : Str → Option Value} (X : K.In h) (G : h.Ns mainGlobals mg) (c : He.SaysD fa fn K) : DefOk K mg names B Gs ⟨"_law_spoilt", ["d", "made", "web", "plan", "way"], 4, b__law_spoilt⟩ :=
  def_ok (names := names) (B := B) (Gs := Gs) (N := ["d", "made", "web", "plan", "way"]) (ps := ["d", "made", "web", "plan"]) X G c 43 (st := top 48) rfl 43 rfl c__law_spoilt ⟨rfl, rfl, rfl, by decide +kernel, rfl, by decide +kernel, by decide +kernel⟩ rfl fun _ _ _ _ _ _ us hl => match us, hl with | [_, _, _, _], _ => rfl
theorem c_law : (cSs 60 60 ⟨names, B, ["script", "d", "is_large", "made", "web", "plan", "k", "tag", "turn", "other"], defScope (top 49), Gs⟩ (defBody (top 49))).map (·.val) = some b_law := by kernel_rfl
theorem d_law {K : PySem.W.Frag} {h : Heap} {mg : Str → Option Value} (X : K.In h) (G : h.Ns mainGlobals mg) (c : He.SaysD fa fn K) : DefOk K mg names B Gs ⟨"law", ["script", "d", "is_large", "made", "web", "plan", "k", "tag", "turn", "other"], 1, b_law⟩ :=
  def_ok (names := names) (B := B) (Gs := Gs) (N := ["script", "d", "is_large", "made", "web", "plan", "k", "tag", "turn", "other"]) (ps := ["script"]) X G c 44 (st := top 49) rfl 44 rfl c_law ⟨rfl, rfl, rfl, by decide +kernel, rfl, by decide +kernel, by decide +kernel⟩ rfl fun _ _ _ _ _ _ us hl => match us, hl with | [_], _ => rfl
theorem defs {K : PySem.W.Frag} {h : Heap} {mg : Str → Option Value} (X : K.In h) (G : h.Ns mainGlobals mg) (c : He.SaysD fa fn K) : ∀ f ∈ T, DefOk K mg names B Gs f := by
  intro f hf
  simp only [T, List.mem_append, List.mem_cons, List.not_mem_nil, or_false, or_assoc] at hf
  rcases hf with rfl | rfl | rfl | rfl | rfl | rfl | rfl | rfl | rfl | rfl | rfl | rfl | rfl | rfl | rfl | rfl | rfl | rfl | rfl | rfl | rfl | rfl | rfl | rfl | rfl | rfl | rfl | rfl | rfl | rfl | rfl | rfl | rfl | rfl | rfl | rfl | rfl | rfl | rfl | rfl | rfl | rfl | rfl | rfl | rfl
  · exact d_is_number X G c
  · exact d_is_between X G c
  · exact d_is_tuple X G c
  · exact d_are_numbers X G c
  · exact d_tally X G c
  · exact d_tallied X G c
  · exact d_spot_row X G c
  · exact d_tie_row X G c
  · exact d_spots_of X G c
  · exact d_totals_of X G c
  · exact d_tallies_of X G c
  · exact d_is_lot X G c
  · exact d_worth_of X G c
  · exact d_state_of X G c
  · exact d__law_begin X G c
  · exact d__law_draw X G c
  · exact d__law_pick X G c
  · exact d__law_rare X G c
  · exact d__law_is_int X G c
  · exact d__law_says X G c
  · exact d__law_letter X G c
  · exact d__law_marks X G c
  · exact d__law_tally X G c
  · exact d__law_tie_row X G c
  · exact d__law_spot_row X G c
  · exact d__law_wholes X G c
  · exact d__law_ended X G c
  · exact d__law_value X G c
  · exact d__law_taken X G c
  · exact d__law_menu X G c
  · exact d__law_worth X G c
  · exact d__law_subset X G c
  · exact d__law_tied X G c
  · exact d__law_planned_ties X G c
  · exact d__law_planned_spots X G c
  · exact d__law_planned X G c
  · exact d__law_is_choice X G c
  · exact d__law_agrees X G c
  · exact d__law_needed_tie X G c
  · exact d__law_spoilt_ties X G c
  · exact d__law_spoilt_spots X G c
  · exact d__law_spoilt_web X G c
  · exact d__law_other_thing X G c
  · exact d__law_spoilt X G c
  · exact d_law X G c
theorem frees {K : PySem.W.Frag} {h : Heap} {mg : Str → Option Value} (X : K.In h) (G : h.Ns mainGlobals mg) (c : He.SaysD fa fn K) : ∀ x ∈ B, mg x = none := by
  intro x hx
  simp only [B, List.mem_cons, List.not_mem_nil, or_false] at hx
  rcases hx with rfl | rfl | rfl | rfl | rfl | rfl | rfl | rfl | rfl | rfl | rfl | rfl | rfl | rfl | rfl
  · exact He.free_ok X G (c.fact 45 (f := .free "len") rfl)
  · exact He.free_ok X G (c.fact 46 (f := .free "range") rfl)
  · exact He.free_ok X G (c.fact 47 (f := .free "tuple") rfl)
  · exact He.free_ok X G (c.fact 48 (f := .free "int") rfl)
  · exact He.free_ok X G (c.fact 49 (f := .free "sorted") rfl)
  · exact He.free_ok X G (c.fact 50 (f := .free "isinstance") rfl)
  · exact He.free_ok X G (c.fact 51 (f := .free "list") rfl)
  · exact He.free_ok X G (c.fact 52 (f := .free "min") rfl)
  · exact He.free_ok X G (c.fact 53 (f := .free "max") rfl)
  · exact He.free_ok X G (c.fact 54 (f := .free "all") rfl)
  · exact He.free_ok X G (c.fact 55 (f := .free "set") rfl)
  · exact He.free_ok X G (c.fact 56 (f := .free "str") rfl)
  · exact He.free_ok X G (c.fact 57 (f := .free "abs") rfl)
  · exact He.free_ok X G (c.fact 58 (f := .free "repr") rfl)
  · exact He.free_ok X G (c.fact 59 (f := .free "bool") rfl)
end K24
section
open PySem PySem.W PySem.Calls PyProof.Rows
set_option maxHeartbeats 0 in
theorem K24.fin (lt : ∀ ns : List Int, ns.length ≤ 63 → ∃ S, PQ.orc K24.T (20 + 1) K24.n_law [.fix (ns.map .int)] [] = .ok (.bl true) S) : PySem.Challenge.rw_everygrown_k24_lots_judged.Holds := by
  w_on; o_law
  refine HandSHeadRun.head_any (r := OpenLaw.row PySem.Challenge.rw_everygrown_k24_lots_judged) (q := view (OpenLaw.row PySem.Challenge.rw_everygrown_k24_lots_judged).prog [49]) (H := K24.hk) (ob := K24.ob) (M := 12000) (loose := K24.loose) (d := HandSHeadRun.topDef (OpenLaw.row PySem.Challenge.rw_everygrown_k24_lots_judged).prog 49) (kwd := []) K24.ob_eq
    (by kernel_rfl) (fun s => by kernel_rfl) K24.run (by kernel_rfl) (by kernel_rfl) (by kernel_rfl) (by rfl) (by first | assumption | decide +kernel) (by decide +kernel) ⟨rfl, rfl, rfl, rfl, rfl, by decide +kernel⟩ ?hw ?hc
  case hw => w_witness2
  case hc =>
    refine PQ.walk_G (l := PySem.Challenge.rw_everygrown_k24_lots_judged) (n := 63) (k := 211) (x := "script") rfl (by decide) (by kernel_rfl) ⟨rfl, by decide, by decide⟩ ?F
    intro w mg fa h Y G hmg0
    obtain ⟨K, KX, c, cg⟩ := Y
    have hmg : mg ("law" : PySem.Str) = some (.ref fa) := by
      have e : (HandSHeadRun.topDef (OpenLaw.row PySem.Challenge.rw_everygrown_k24_lots_judged).prog 49).name = ("law" : PySem.Str) := by kernel_rfl
      rw [← e]
      exact hmg0
    exact PQ.law_end (names := K24.names) (T := K24.T) (B := K24.B) (Gs := K24.Gs) (i := 44) (k := 20) KX rfl (K24.frees KX G c) (PQ.gB_ok KX G cg) (K24.defs KX G c) rfl rfl rfl hmg (by decide) (by decide) lt
end
section
open PySem PySem.Spec PyProof.Rows L2 PQ
namespace K24
local macro_rules
  | `(tactic| mul_fits) => `(tactic| (repeat (first
    | (with_reducible refine PQ.w_scons ?_)
    | ((with_reducible apply PQ.w_var); (focus (exact rfl)))
    | (with_reducible refine PQ.w_bin ?_)
    | (with_reducible refine PQ.w_call ?_)
    | (with_reducible refine PQ.w_cons ?_)
    | (with_reducible refine PQ.w_nil ?_)
    | (with_reducible refine PQ.w_lit ?_)
    | (with_reducible refine PQ.w_cmp ?_)
    | (with_reducible refine PQ.w_idx ?_)
    | (with_reducible refine PQ.w_set ?_)
    | (with_reducible refine PQ.w_ret ?_)
    | (with_reducible refine PQ.w_ite ?_)
    | (with_reducible refine PQ.w_tv ?_)
    | (with_reducible refine PQ.w_tnot ?_)
    | (with_reducible refine PQ.w_nx ?_)
    | (with_reducible refine PQ.w_rt ?_)
    | (with_reducible refine PQ.w_if_t ?_)
    | (with_reducible refine PQ.w_if_f ?_)
    | (with_reducible refine PQ.w_if_nt ?_)
    | (with_reducible refine PQ.w_if_nf ?_)
    | (with_reducible refine PQ.w_tru_b ?_)
    | (with_reducible refine PQ.w_tru_i ?_)
    | (with_reducible refine PQ.w_tru_t ?_)
    | (with_reducible refine PQ.w_ok ?_)
    | (with_reducible refine PQ.w_snil ?_)
    | (with_reducible refine PQ.w_ex ?_)
    | (with_reducible refine PQ.w_agg ?_)
    | (with_reducible refine PQ.w_fn1 ?_)
    | (with_reducible refine PQ.w_fn2 ?_)
    | (with_reducible refine PQ.w_tup ?_)
    | (with_reducible refine PQ.w_alloc ?_)
    | (with_reducible refine PQ.w_disp ?_)
    | (with_reducible refine PQ.w_e ?_)
    | (with_reducible refine PQ.w_q ?_)
    | (with_reducible refine PQ.w_ir ?_)
    | (with_reducible refine PQ.w_for ?_)
    | (with_reducible refine PQ.w_comp ?_)
    | (with_reducible refine PQ.w_compIf ?_)
    | (with_reducible refine PQ.w_and ?_)
    | (with_reducible refine PQ.w_or ?_)
    | (with_reducible refine PQ.w_not ?_)
    | (with_reducible refine PQ.w_ife ?_)
    | (with_reducible refine PQ.w_slc ?_)
    | (with_reducible refine PQ.w_oN ?_)
    | (with_reducible refine PQ.w_isi ?_)
    | (with_reducible refine PQ.w_app ?_)
    | (with_reducible refine PQ.w_ext ?_)
    | (with_reducible refine PQ.w_pop ?_)
    | (with_reducible refine PQ.w_popAt ?_)
    | (with_reducible refine PQ.w_join ?_)
    | (with_reducible refine PQ.w_tix ?_)
    | (with_reducible refine PQ.w_ins ?_)
    | (with_reducible refine PQ.v_tixT ?_)
    | (with_reducible refine PQ.w_isN ?_)
    | (with_reducible refine PQ.w_notN ?_)
    | (with_reducible refine PQ.w_inr ?_)
    | (with_reducible refine PQ.w_notInr ?_)
    | (with_reducible refine PQ.w_chn ?_)
    | (with_reducible refine PQ.w_tand ?_)
    | (with_reducible refine PQ.w_tor ?_)
    | (with_reducible refine PQ.w_cat ?_)
    | (with_reducible refine PQ.w_sorted ?_)
    | (with_reducible refine PQ.w_list ?_)
    | (with_reducible refine PQ.w_rev ?_)
    | (with_reducible refine PQ.w_rv ?_)
    | (with_reducible refine PQ.v_rvT ?_)
    | (with_reducible refine PQ.w_sset ?_)
    | (with_reducible refine PQ.w_setT ?_)
    | (with_reducible refine PQ.w_par ?_)
    | (with_reducible refine PQ.w_sub ?_)
    | (with_reducible refine PQ.w_bk ?_)
    | (with_reducible refine PQ.w_ct ?_)
    | (with_reducible refine PQ.w_brk ?_)
    | (with_reducible refine PQ.w_cont ?_)
    | (with_reducible refine PQ.w_pass ?_)
    | (with_reducible refine PQ.w_dnew ?_)
    | (with_reducible refine PQ.w_dget ?_)
    | (with_reducible refine PQ.w_dsetd ?_)
    | (with_reducible refine PQ.v_add ?_)
    | (with_reducible refine PQ.v_addB ?_)
    | (with_reducible refine PQ.v_sub ?_)
    | (with_reducible refine PQ.v_band ?_)
    | (with_reducible refine PQ.v_bor ?_)
    | (with_reducible refine PQ.v_bxor ?_)
    | (with_reducible refine PQ.v_augAdd ?_)
    | (with_reducible refine PQ.v_augSub ?_)
    | (with_reducible refine PQ.v_lt ?_)
    | (with_reducible refine PQ.v_le ?_)
    | (with_reducible refine PQ.v_gt ?_)
    | (with_reducible refine PQ.v_ge ?_)
    | (with_reducible refine PQ.v_eq ?_)
    | (with_reducible refine PQ.v_ne ?_)
    | (with_reducible refine PQ.v_eqS ?_)
    | (with_reducible refine PQ.v_neS ?_)
    | (with_reducible refine PQ.v_eqB ?_)
    | (with_reducible refine PQ.v_intI ?_)
    | (with_reducible refine PQ.v_intB ?_)
    | (with_reducible refine PQ.v_abs ?_)
    | (with_reducible refine PQ.v_gcd ?_)
    | (with_reducible refine PQ.v_min2 ?_)
    | (with_reducible refine PQ.v_max2 ?_)
    | (with_reducible refine PQ.v_slcT ?_)
    | (with_reducible refine PQ.w_bind ?_)
    | (with_reducible refine PQ.r_nx ?_)
    | (with_reducible refine PQ.r_rt ?_)
    | (with_reducible refine PQ.g_self ?_)
    | ((with_reducible apply PQ.w_aug); (focus (exact rfl)))
    | (with_reducible refine PQ.w_neg ?_)
    | (with_reducible refine PQ.w_oS ?_)
    | (with_reducible refine PQ.w_listRg ?_)
    | (with_reducible refine PQ.w_rg ?_)
    | (with_reducible refine PQ.w_rgd ?_)
    | (with_reducible refine PQ.w_augS ?_)
    | ((with_reducible apply PQ.v_mul); (focus (first | assumption | exact .of_left (by decide +kernel) | exact .of_right (by decide +kernel))))
    | ((with_reducible apply PQ.v_fdiv); (focus (first | assumption | exact ⟨by omega, PyProof.noPylong_small (by omega)⟩)))
    | ((with_reducible apply PQ.v_mod); (focus (first | assumption | omega)))
    | ((with_reducible apply PQ.v_pow); (focus (first | assumption | (unfold CPow; decide +kernel) | (unfold CPow; omega))))
    | ((with_reducible apply PQ.v_shl); (focus (first | assumption | (unfold CPow; decide +kernel) | (unfold CPow; omega))))
    | ((with_reducible apply PQ.v_shr); (focus (first | assumption | omega)))
    | ((with_reducible apply PQ.v_idx); (focus (first | exact rfl | assumption)); (focus (first | exact rfl | assumption)))
    | ((with_reducible apply PQ.v_idxT); (focus (first | exact rfl | assumption)))
    | ((with_reducible apply PQ.v_idxF); (focus (first | exact rfl | assumption)))
    | ((with_reducible apply PQ.v_len); (focus (first | exact rfl | assumption)))
    | ((with_reducible apply PQ.v_tuple); (focus (first | exact rfl | assumption)))
    | ((with_reducible apply PQ.v_sum); (focus (first | exact rfl | assumption)); (focus (first | exact rfl | assumption)))
    | ((with_reducible apply PQ.v_all); (focus (first | exact rfl | assumption)); (focus (first | exact rfl | assumption)))
    | ((with_reducible apply PQ.v_any); (focus (first | exact rfl | assumption)); (focus (first | exact rfl | assumption)))
    | ((with_reducible apply PQ.v_slc); (focus (first | exact rfl | assumption)))
    | ((with_reducible apply PQ.v_set); (focus (first | exact rfl | assumption)); (focus (first | exact rfl | assumption)))
    | ((with_reducible apply PQ.v_lenS); (focus (refine Nat.le_trans (Nat.le_refl _) ?_; first | assumption | (refine PQ.le64 ?_; simp; done) | omega)))
    | ((with_reducible apply PQ.v_idxS); (focus (refine Nat.le_trans (Nat.le_refl _) ?_; first | assumption | (refine PQ.le64 ?_; simp; done) | omega)); (focus (first | exact rfl | assumption)))
    | ((with_reducible apply PQ.w_withL); (focus (first | exact rfl | assumption)))
    | ((with_reducible apply PQ.v_app); (focus (first | exact rfl | assumption)); (focus (first | assumption | exact Nat.lt_of_lt_of_le (Nat.lt_succ_self _) (Nat.le_of_ble_eq_true rfl) | omega)))
    | ((with_reducible apply PQ.v_addT); (focus (refine Nat.le_trans (Nat.le_refl _) ?_; first | assumption | (refine PQ.le64 ?_; simp; done) | omega)))
    | ((with_reducible apply PQ.v_addS); (focus (refine Nat.le_trans (Nat.le_refl _) ?_; first | assumption | (refine PQ.le64 ?_; simp; done) | omega)))
    | ((with_reducible apply PQ.v_addL); (focus (first | exact rfl | assumption)); (focus (first | exact rfl | assumption)); (focus (refine Nat.le_trans (Nat.le_refl _) ?_; first | assumption | (refine PQ.le64 ?_; simp; done) | omega)))
    | ((with_reducible apply PQ.w_tru_r); (focus (first | exact rfl | assumption)))
    | ((with_reducible apply PQ.w_if_T); (focus (exact rfl)))
    | ((with_reducible apply PQ.w_if_F); (focus (exact rfl)))
    | ((with_reducible apply PQ.w_may); (focus (exact rfl)))
    | ((with_reducible apply PQ.v_idxK); (focus (assumption)); (focus (exact rfl)); (focus (assumption)))
    | ((with_reducible apply PQ.v_setK); (focus (assumption)); (focus (exact rfl)); (focus (first | assumption | exact Nat.lt_of_lt_of_le (Nat.lt_succ_self _) (Nat.le_of_ble_eq_true rfl) | omega)))
    | ((with_reducible apply PQ.w_withD); (focus (assumption)))
    | ((with_reducible apply PQ.w_withR); (focus (assumption)))
    | ((with_reducible apply PQ.w_withRf); (focus (assumption)))
    | ((with_reducible apply PQ.w_withRt); (focus (assumption)))
    | ((with_reducible apply PQ.v_idxTb); (focus (assumption)); (focus (exact rfl)); (focus (assumption)))
    | ((with_reducible apply PQ.v_setT); (focus (assumption)); (focus (exact rfl)); (focus (first | assumption | exact Nat.lt_of_lt_of_le (Nat.lt_succ_self _) (Nat.le_of_ble_eq_true rfl) | omega)))
    | ((with_reducible apply PQ.v_setT0); (focus (assumption)); (focus (exact rfl)))
    | ((with_reducible apply PQ.v_dgetT); (focus (assumption)); (focus (exact rfl)))
    | ((with_reducible apply PQ.v_dgetT0); (focus (assumption)); (focus (exact rfl)))
    | ((with_reducible apply PQ.v_setdT0); (focus (assumption)); (focus (exact rfl)))
    | ((with_reducible apply PQ.v_dgetF); (focus (assumption)); (focus (exact rfl)))
    | ((with_reducible apply PQ.v_idxF_); (focus (assumption)); (focus (exact rfl)); (focus (assumption)))
    | ((with_reducible apply PQ.v_dget); (focus (assumption)); (focus (exact rfl)))
    | ((with_reducible apply PQ.v_lenD); (focus (assumption)))
    | ((with_reducible apply PQ.v_tixR); (focus (assumption)))
    | ((with_reducible apply PQ.w_mayI); (focus (assumption)))
    | ((with_reducible apply PQ.w_mayL); (focus (assumption)))
    | ((with_reducible apply PQ.w_mayV); (focus (assumption)))
    | ((with_reducible apply PQ.w_mayS); (focus (assumption)))
    | ((with_reducible apply PQ.w_mayT); (focus (assumption)))
    | ((with_reducible apply PQ.w_mayO); (focus (assumption)))
    | ((with_reducible apply PQ.v_lenR); (focus (assumption)))
    | ((with_reducible apply PQ.v_tupleR); (focus (assumption)))
    | ((with_reducible refine ⟨_, rfl, ?_⟩))
    | ((with_reducible apply PQ.w_augK); (focus (first | exact rfl | assumption)); (focus (first | exact rfl | assumption)))
    | ((with_reducible refine ⟨_, _, rfl, rfl, ?_, ?_⟩); (focus (first | assumption | (unfold bd62; omega) | (unfold RgOk; omega))))
    | ((with_reducible refine ⟨?_, ?_⟩); (focus (refine Nat.le_trans (Nat.le_refl _) ?_; first | assumption | (refine PQ.le64 ?_; simp; done) | omega))))))
def qD (q : Rat) : D := .tup [.int q.num, .int (q.den : Int)]
def QB (n : Nat) (q : Rat) : Prop := q.num.natAbs < 2 ^ n ∧ q.den < 2 ^ n
theorem QB.mono {m n : Nat} {q : Rat} (h : QB m q) (hm : m ≤ n) : QB n q := ⟨Nat.lt_of_lt_of_le h.1 (Nat.pow_le_pow_right (by decide) hm), Nat.lt_of_lt_of_le h.2 (Nat.pow_le_pow_right (by decide) hm)⟩
section
variable {k : Nat} {S : Sto} {Q : D → Sto → Prop} {n d a b c e : Int}
end
section
variable {k : Nat} {S : Sto} {Q : D → Sto → Prop} {a b : Rat} {m n : Nat}
theorem den_ne (a : Rat) : ((a.den : Nat) : Int) ≠ 0 := by
  have := a.den_nz
  omega
theorem sub_eq : Rat.divInt (a.num * (b.den : Int) - b.num * (a.den : Int)) ((a.den : Int) * (b.den : Int)) = a - b := by
  rw [← Rat.divInt_sub_divInt _ _ (den_ne a) (den_ne b), Rat.num_divInt_den, Rat.num_divInt_den]
theorem add_eq : Rat.divInt (a.num * (b.den : Int) + b.num * (a.den : Int)) ((a.den : Int) * (b.den : Int)) = a + b := by
  rw [← Rat.divInt_add_divInt _ _ (den_ne a) (den_ne b), Rat.num_divInt_den, Rat.num_divInt_den]
theorem mul_eq : Rat.divInt (a.num * b.num) ((a.den : Int) * (b.den : Int)) = a * b := by
  rw [← Rat.divInt_mul_divInt, Rat.num_divInt_den, Rat.num_divInt_den]
/-- the parts of a fraction in lowest terms are not greater than those it is made of -/
theorem divInt_bd {x y : Int} {n : Nat} (hy : y ≠ 0) (hx : x.natAbs < 2 ^ n) (hb : y.natAbs < 2 ^ n) : QB n (Rat.divInt x y) := by
  have hg : 0 < y.gcd x := Nat.gcd_pos_of_pos_left _ (by omega)
  refine ⟨?_, ?_⟩
  · rw [Rat.num_divInt]
    have h1 := Int.natAbs_ediv_le_natAbs (y.sign * x) ((y.gcd x : Nat) : Int)
    have h2 : (y.sign * x).natAbs = x.natAbs := by
      rw [Int.natAbs_mul, Int.natAbs_sign_of_ne_zero hy, Nat.one_mul]
    omega
  · rw [Rat.den_divInt, if_neg hy]
    have := Nat.div_le_self y.natAbs (y.gcd x)
    omega
theorem n2 {q : Rat} (h : QB m q) : ((q.den : Nat) : Int).natAbs < 2 ^ m := by
  rw [Int.natAbs_natCast]
  exact h.2
theorem QB.sub (ha : QB m a) (hb : QB n b) : QB (m + n + 1) (a - b) := by
  rw [← sub_eq]
  refine divInt_bd (Int.mul_ne_zero (den_ne a) (den_ne b)) ?_ (bd_mono (mul_bd (n2 ha) (n2 hb)) (by omega))
  exact sub_bd (mul_bd ha.1 (n2 hb)) (by rw [Nat.add_comm m n]; exact mul_bd hb.1 (n2 ha))
theorem QB.add (ha : QB m a) (hb : QB n b) : QB (m + n + 1) (a + b) := by
  rw [← add_eq]
  refine divInt_bd (Int.mul_ne_zero (den_ne a) (den_ne b)) ?_ (bd_mono (mul_bd (n2 ha) (n2 hb)) (by omega))
  exact add_bd (mul_bd ha.1 (n2 hb)) (by rw [Nat.add_comm m n]; exact mul_bd hb.1 (n2 ha))
theorem QB.mul (ha : QB m a) (hb : QB n b) : QB (m + n) (a * b) := by
  rw [← mul_eq]
  exact divInt_bd (Int.mul_ne_zero (den_ne a) (den_ne b)) (mul_bd ha.1 hb.1) (mul_bd (n2 ha) (n2 hb))
theorem q0 : D.tup [.int 0, .int 1] = qD 0 := rfl
theorem q1 : D.tup [.int 1, .int 1] = qD 1 := rfl
theorem is_int_w {i : Int} (h : Q (.bl true) S) : W (orc T (k + 1) n__law_is_int [.int i] S) Q := by
  refine orc_w (ρ := [some (.int i)]) rfl rfl rfl ?_
  show W (evSs _ b__law_is_int _ _) _
  simp only [b__law_is_int]
  mul_fits
  exact h
end
structure Pt where
  one : Nat
  other : Nat
  strand : Str
abbrev Pt.d (s : Pt) : D := .tup [.int (s.one : Nat), .int (s.other : Nat), .str s.strand]
def Pt.p (s : Pt) : PyData := .tuple [.int (s.one : Nat), .int (s.other : Nat), .str s.strand]
def srt (l : List Pt) : List Pt := l.mergeSort (PySem.W.dataLe false Pt.p)
theorem srt_perm (l : List Pt) : (srt l).Perm l := List.mergeSort_perm _ _
def stS (cs : List Nat) : Str := ⟨cs.toArray⟩
def singD (c : Nat) : D := .str ⟨#[c]⟩
theorem st_length (cs : List Nat) : (stS cs).length = cs.length := by
  show cs.toArray.size = _
  simp
theorem st_append (a b : List Nat) : stS a ++ stS b = stS (a ++ b) := by
  show (⟨a.toArray ++ b.toArray⟩ : Str) = ⟨(a ++ b).toArray⟩
  simp

theorem strs_sing (l : List Nat) : strsOf (l.map singD) = some (l.map fun c => (⟨#[c]⟩ : Str)) := by
  induction l with
  | nil => rfl
  | cons x xs ih =>
    rw [List.map_cons, List.map_cons]
    show (strsOf _).map _ = _
    rw [ih]
    rfl
theorem glued_sing (cs : List Nat) : Txt.join "" (cs.map fun c => (⟨#[c]⟩ : Str)) = stS cs := by
  have key : ∀ cs : List Nat, Str.join "" (cs.map fun c => (⟨#[c]⟩ : Str)) = stS cs := by
    intro cs
    induction cs with
    | nil => rfl
    | cons x cs ih =>
      cases cs with
      | nil => rfl
      | cons y cs =>
        show (⟨#[x]⟩ : Str) ++ "" ++ Str.join "" ((y :: cs).map fun c => (⟨#[c]⟩ : Str)) = _
        rw [ih]
        show (⟨#[x] ++ #[] ++ (y :: cs).toArray⟩ : Str) = ⟨(x :: y :: cs).toArray⟩
        simp
  rw [← key]
  exact PySem.StrLaws.glued_eq_join _ _
theorem sum_ones (l : List Nat) : ((l.map fun c => (⟨#[c]⟩ : Str)).map (·.length)).sum = l.length := by
  induction l with
  | nil => rfl
  | cons x l ih =>
    rw [List.map_cons, List.map_cons, List.sum_cons, ih, List.length_cons]
    show 1 + _ = _
    omega
theorem toPs_pts (f : Nat → Option PyData) (l : List Pt) : toPsW f (l.map Pt.d) = some (l.map Pt.p) := by
  induction l with
  | nil => rfl
  | cons x l ih => simp [toPsW, toPW, ih, Pt.p]
theorem sort_pts {S : Sto} {l : List Pt} {Q : List D → Sto → Prop} (h : Q ((srt l).map Pt.d) S) : W (sortD S (l.map Pt.d)) Q := by
  have e : toPs S (l.map Pt.d) = some (l.map Pt.p) := toPs_pts _ _
  unfold sortD
  rw [e]
  have es : (l.map Pt.d).mergeSort (PySem.W.dataLe false fun d => (toP S d).getD .none) = (srt l).map Pt.d := by
    refine (PySem.W.sort_maps Pt.d fun a _ b _ => ?_).symm
    have ep : ∀ p : Pt, (toP S p.d).getD .none = p.p := fun p => by
      have : toP S p.d = some p.p := by simp [toP, toPW, toPsW, Pt.p]
      rw [this]
      rfl
    rw [PySem.W.dataLe_eq, PySem.W.dataLe_eq]
    simp only [ep]
  rw [es]
  refine w_ask ⟨fun a ha b hb => ?_, .inl fun a ha => ?_, fun a ha => ?_⟩ (w_ok h)
  · obtain ⟨x, _, rfl⟩ := List.mem_map.mp ha
    obtain ⟨y, _, rfl⟩ := List.mem_map.mp hb
    simp [PySem.W.alike, PySem.W.alikeAll, Pt.p]
  · obtain ⟨x, _, rfl⟩ := List.mem_map.mp ha
    exact ⟨_, _, rfl⟩
  · obtain ⟨x, _, rfl⟩ := List.mem_map.mp ha
    simp [PyData.depth, PyData.depthAll, Pt.p]
theorem below_pts (l : List Pt) {n : Nat} : below n (.tup (l.map Pt.d)) := by
  show belows n _
  refine belows_iff.mpr fun x hx => ?_
  obtain ⟨p, _, rfl⟩ := List.mem_map.mp hx
  simp [below, belows]

theorem rgD_0 (j : Nat) : rgD 0 (j : Int) = (List.range' 0 j).map natD := by
  rw [rgD0, ← List.range_eq_range']
/-- a letter from a to z -/
def Az (c : Nat) : Prop := 97 ≤ c ∧ c ≤ 122
instance (c : Nat) : Decidable (Az c) := inferInstanceAs (Decidable (_ ∧ _))
theorem Az.lt {c : Nat} (h : Az c) : c < 1114112 := Nat.lt_of_le_of_lt h.2 (by decide)
def Lt (x : D) : Prop := ∃ c : Nat, Az c ∧ x = singD c
section
variable {k : Nat} {R : Sto} {Q : D → Sto → Prop} {d : DS} {m : Int}
theorem draw_ (h1 : 0 < m) (h2 : m < 1073741824) (h : ∀ (y : Int) (d' : DS), 0 ≤ y → y < m → Q (.int y) (d'.st R)) : W (orc T (k + 1) n__law_draw [.ref 1, .int m] (d.st R)) Q := draw_w rfl h1 h2 h
theorem rare_w (h1 : 0 < m) (h2 : m < 1000) (h : ∀ (c : Bool) (d' : DS), Q (.bl c) (d'.st R)) : W (orc T (k + 2) n__law_rare [.ref 1, .int m] (d.st R)) Q := by
  refine orc_w (ρ := [some (.ref 1), some (.int m)]) rfl rfl rfl ?_
  show W (evSs _ b__law_rare _ _) _
  simp only [b__law_rare]
  mul_fits
  refine draw_ h1 (by omega) fun y d1 y0 y1 => ?_
  mul_fits
  rw [gc_same (by rfl)]
  exact w_ok (h _ _)
theorem pick_w {b : Nat} {row : List D} (h0 : 0 < row.length) (hl : row.length < 1000) (hb : R[b]? = some (.lst row)) (h : ∀ x ∈ row, ∀ d' : DS, Q x (d'.st R)) : W (orc T (k + 2) n__law_pick [.ref 1, .ref (b + 2)] (d.st R)) Q := by
  refine orc_w (ρ := [some (.ref 1), some (.ref (b + 2))]) rfl rfl rfl ?_
  show W (evSs _ b__law_pick _ _) _
  simp only [b__law_pick]
  have hq : ∀ d : DS, (d.st R)[b + 2]? = some (.lst row) := fun d => hb
  have g1 : sqOf (d.st R) (.val (.ref (b + 2))) = some row := by simp only [sqOf, lsOf, hq]
  mul_fits
  refine draw_ (by omega) (by omega) fun y d1 y0 y1 => ?_
  have hy : y.toNat < row.length := by omega
  have k1 : atI row y = some (row[y.toNat]) := by
    unfold atI ixN
    rw [if_pos y0, if_pos y1]
    simp [hy]
  refine v_idx (hq d1) k1 ?_
  mul_fits
  rw [gc_same (by rfl)]
  mul_fits
  exact h _ (List.getElem_mem hy) _
theorem st_mid {o : Ob} {g : Sto} : (d.st (R ++ [o] ++ g))[R.length + 2]? = some o := by rw [st_get]; exact get_mid R g o
theorem st_set_mid {o p : Ob} {g : Sto} : (d.st (R ++ [o] ++ g)).set (R.length + 2) p = d.st (R ++ [p] ++ g) := by
  show DS.st d _ = _
  unfold DS.st
  have := set_mid R g o p
  simp only [List.set_cons_succ, this]
theorem st_set (d : DS) {R : Sto} {i : Nat} {p : Ob} : (d.st R).set (i + 2) p = d.st (R.set i p) := by
  unfold DS.st
  simp only [List.set_cons_succ]
theorem cut_take {l : List D} {m : Nat} : PQ.cutD l none (some (m : Int)) = l.take m := by
  unfold PQ.cutD
  simp only [HT.sIx]
  rw [if_neg (by omega), List.drop_zero, Int.toNat_natCast, Nat.sub_zero]
  by_cases h : m ≤ l.length
  · rw [Nat.min_eq_left h]
  · rw [Nat.min_eq_right (by omega), List.take_length, List.take_of_length_le (by omega)]
theorem pickT_w {row : List D} (h0 : 0 < row.length) (hl : row.length < 1000) (hp : ∀ x ∈ row, below 0 x) (h : ∀ x ∈ row, ∀ d' : DS, Q x (d'.st R)) : W (orc T (k + 2) n__law_pick [.ref 1, .tup row] (d.st R)) Q := by
  refine orc_w (ρ := [some (.ref 1), some (.tup row)]) rfl rfl rfl ?_
  show W (evSs _ b__law_pick _ _) _
  simp only [b__law_pick]
  mul_fits
  refine draw_ (by omega) (by omega) fun y d1 y0 y1 => ?_
  have hy : y.toNat < row.length := by omega
  have k1 : atI row y = some (row[y.toNat]) := by
    unfold atI ixN
    rw [if_pos y0, if_pos y1]
    simp [hy]
  refine v_idxT k1 ?_
  mul_fits
  rw [gc_same (by rfl)]
  mul_fits
  exact h _ (List.getElem_mem hy) _

theorem gc_st2 {d d' : DS} {R g : Sto} {e : D} {Q : D → Sto → Prop} (hb : below (R.length + 2) e) (h : Q e (d'.st R)) : W (gc (d.st R) e (d'.st (R ++ g))) Q := by
  unfold gc
  have sf : Safe (d.st R) e (d'.st (R ++ g)) := by
    refine ⟨hb, by simp [st_len], fun i o hi e2 => ?_⟩
    match i, hi, e2 with
    | 0, _, e2 =>
      right
      have : Ob.lst (d'.cells.map .int) = o := by simpa [DS.st] using e2
      subst this
      refine belows_iff.mpr fun x hx => ?_
      obtain ⟨q, _, rfl⟩ := List.mem_map.mp hx
      trivial
    | 1, _, e2 =>
      right
      have : Ob.lst [.ref 0, .int d'.p, .int d'.r, .int d'.s] = o := by simpa [DS.st] using e2
      subst this
      refine belows_iff.mpr fun x hx => ?_
      simp at hx
      rcases hx with rfl | rfl | rfl | rfl
      · show 0 < _
        simp [st_len]
      · trivial
      · trivial
      · trivial
    | i + 2, hi, e2 =>
      left
      rw [st_get] at e2 ⊢
      rw [st_len] at hi
      rwa [List.getElem?_append_left (by omega)] at e2
  rw [if_pos sf, W_ok]
  have : (d'.st (R ++ g)).take (d.st R).length = d'.st R := by
    show List.take (R.length + 2) (_ :: _ :: (R ++ g)) = _
    rw [List.take_succ_cons, List.take_succ_cons, List.take_left' rfl]
    rfl
  rw [this]
  exact h

end
section
variable {k : Nat} {R : Sto} {Q : D → Sto → Prop} {d : DS} {m : Int}
/-- a row of letters: a list of the store, or a text -/
def RowV (R : Sto) (v : D) : Prop := (∃ (b : Nat) (row : List D), v = .ref (b + 2) ∧ 0 < row.length ∧ row.length < 1000 ∧ R[b]? = some (.lst row) ∧ ∀ x ∈ row, Lt x) ∨ (∃ cs : List Nat, v = .str (stS cs) ∧ 0 < cs.length ∧ cs.length < 1000 ∧ ∀ c ∈ cs, Az c)
theorem RowV.pre {R g : Sto} {v : D} (h : RowV R v) : RowV (R ++ g) v := by
  rcases h with ⟨b, row, h0, h1, h2, h3, h4⟩ | h
  · exact .inl ⟨b, row, h0, h1, h2, get_pre h3, h4⟩
  · exact .inr h
theorem RowV.nr {R : Sto} {v : D} (h : RowV R v) : (∃ b, v = .ref (b + 2)) ∨ ∃ z, v = .str z := by
  rcases h with ⟨b, row, h0, _⟩ | ⟨cs, h0, _⟩
  · exact .inl ⟨b, h0⟩
  · exact .inr ⟨_, h0⟩
/-- a tie within spots -/
structure PtIn (n : Nat) (p : Pt) : Prop where
  one : p.one < n
  other : p.other < n
  lt : p.one < p.other
  st : ∃ c : Nat, Az c ∧ p.strand = ⟨#[c]⟩
/-- a name: a letter, some signs -/
def hd (s : Str) : Option Nat := s.cps.toList.head?
end
structure Sl where
  nm : Str
  pl : List Nat
abbrev Sl.d (s : Sl) : D := .tup [.str s.nm, .tup (s.pl.map natD)]
structure Rl where
  nm : Str
  ms : List Nat
  ts : List Pt
  sl : List Sl
abbrev Rl.d (r : Rl) : D := .tup [.str r.nm, .str (stS r.ms), .tup (r.ts.map Pt.d), .tup (r.sl.map Sl.d)]
abbrev prD (p : Str × Nat) : D := .tup [.str p.1, natD p.2]
structure Bk where
  top : Str
  nms : List (Str × Nat)
  rls : List Rl
abbrev Bk.d (b : Bk) : D := .tup [.str b.top, .tup (b.nms.map prD), .tup (b.rls.map Rl.d)]
/-- a row of letters of the store -/
structure Row (R : Sto) (b : Nat) : Prop where
  ex : ∃ row : List D, 0 < row.length ∧ row.length < 1000 ∧ R[b]? = some (.lst row) ∧ ∀ x ∈ row, Lt x
theorem Row.pre {R g : Sto} {b : Nat} (h : Row R b) : Row (R ++ g) b := by
  obtain ⟨row, h1, h2, h3, h4⟩ := h.ex
  exact ⟨row, h1, h2, get_pre h3, h4⟩
theorem Row.v {R : Sto} {b : Nat} (h : Row R b) : RowV R (.ref (b + 2)) := by
  obtain ⟨row, h1, h2, h3, h4⟩ := h.ex
  exact .inl ⟨b, row, rfl, h1, h2, h3, h4⟩
section
variable {k : Nat} {R : Sto} {Q : D → Sto → Prop} {d : DS} {m : Int}
end
/-- a rule within names -/
structure RlIn (nms : List (Str × Nat)) (r : Rl) : Prop where
  ex : ∃ a, (r.nm, a) ∈ nms ∧ (∀ s ∈ r.sl, ∃ a', (s.nm, a') ∈ nms ∧ s.pl.length = a' ∧ s.pl.Nodup ∧ ∀ x ∈ s.pl, x < a + r.ms.length) ∧ (∀ p ∈ r.ts, PtIn (a + r.ms.length) p)
  sl : r.sl.length ≤ 3
  ms : r.ms.length ≤ 6
  tl : r.ts.length ≤ 12
  ss : srt r.ts = r.ts
  mc : ∀ c ∈ r.ms, Az c
section
variable {k : Nat} {R : Sto} {Q : D → Sto → Prop} {d : DS} {m : Int}
end
def gS {α : Type} : List (Str × α) → Str → Option α
  | [], _ => none
  | (j, a) :: r, s => if j = s then some a else gS r s
def pS {α : Type} : List (Str × α) → Str → α → List (Str × α)
  | [], s, a => [(s, a)]
  | (j, b) :: r, s, a => if j = s then (j, a) :: r else (j, b) :: pS r s a
def encK {α : Type} (e : α → D) (l : List (Str × α)) : List (Key × D) := l.map fun p => (.inr p.1, e p.2)
section
variable {α : Type} {e : α → D}
theorem pD_enc (s : Str) (a : α) : ∀ l : List (Str × α), pD (encK e l) (.inr s) (e a) = encK e (pS l s a)
  | [] => rfl
  | (j, b) :: r => by
    show (if (Sum.inr j : Key) = .inr s then ((.inr j : Key), e a) :: encK e r else (.inr j, e b) :: pD (encK e r) (.inr s) (e a)) = _
    unfold pS
    by_cases h : j = s
    · rw [if_pos (by rw [h]), if_pos h]
      rfl
    · rw [if_neg (fun z => h (Sum.inr.inj z)), if_neg h, pD_enc s a r]
      rfl
theorem gS_pS (k j : Str) (a : α) : ∀ l : List (Str × α), gS (pS l k a) j = if k = j then some a else gS l j
  | [] => rfl
  | (i, b) :: r => by
    unfold pS
    by_cases h : i = k
    · rw [if_pos h]
      subst h
      unfold gS
      by_cases h2 : i = j
      · rw [if_pos h2, if_pos h2]
      · rw [if_neg h2, if_neg h2, if_neg h2]
    · rw [if_neg h]
      unfold gS
      rw [gS_pS k j a r]
      by_cases h2 : i = j
      · subst h2
        rw [if_pos rfl, if_pos rfl, if_neg (fun z => h z.symm)]
      · rw [if_neg h2, if_neg h2]
theorem pS_len (s : Str) (a : α) : ∀ l : List (Str × α), (pS l s a).length ≤ l.length + 1
  | [] => Nat.le_refl _
  | (i, b) :: r => by
    unfold pS
    split
    · rw [List.length_cons, List.length_cons]; omega
    · rw [List.length_cons, List.length_cons]
      have := pS_len s a r
      omega
end
abbrev Ls := List (Str × Nat)
def inL (l : Ls) (r : Rl) : Bool := r.sl.all fun s => (gS l s.nm).isSome
def smL (l : Ls) (r : Rl) : Nat := (r.sl.map fun s => (gS l s.nm).getD 0).sum
def stp (l : Ls) (r : Rl) : Ls := if inL l r = true then (match gS l r.nm with
  | none => pS l r.nm (1 + smL l r)
  | some w => if 1 + smL l r < w then pS l r.nm (1 + smL l r) else l) else l
def trn (b : Bk) (l : Ls) : Ls := b.rls.foldl stp l
def lsts (b : Bk) : Nat → Ls
  | 0 => []
  | n + 1 => trn b (lsts b n)
def lstB (b : Bk) : Ls := lsts b b.nms.length
/-- less or the same, and no name lost -/
def LeL (l m : Ls) : Prop := ∀ s v, gS l s = some v → ∃ w, gS m s = some w ∧ w ≤ v
theorem LeL.refl {l : Ls} : LeL l l := fun s v h => ⟨v, h, Nat.le_refl _⟩
theorem LeL.trans {l m n : Ls} (a : LeL l m) (b : LeL m n) : LeL l n := fun s v h => by
  obtain ⟨w, h1, h2⟩ := a s v h
  obtain ⟨x, h3, h4⟩ := b s w h1
  exact ⟨x, h3, by omega⟩
theorem stp_le (l : Ls) (r : Rl) : LeL l (stp l r) := fun s v h => by
  unfold stp
  split
  · split
    · rename_i e
      rw [gS_pS, if_neg (fun z => by rw [z, h] at e; cases e)]
      exact ⟨v, h, Nat.le_refl _⟩
    · rename_i w e
      split
      · rename_i hw
        rw [gS_pS]
        by_cases c : r.nm = s
        · rw [if_pos c]
          rw [c, h] at e
          cases e
          exact ⟨_, rfl, Nat.le_of_lt hw⟩
        · rw [if_neg c]
          exact ⟨v, h, Nat.le_refl _⟩
      · exact ⟨v, h, Nat.le_refl _⟩
  · exact ⟨v, h, Nat.le_refl _⟩
theorem inL_iff {l : Ls} {r : Rl} : inL l r = true ↔ ∀ s ∈ r.sl, ∃ v, gS l s.nm = some v := by
  unfold inL
  rw [List.all_eq_true]
  exact ⟨fun h s hs => Option.isSome_iff_exists.mp (h s hs), fun h s hs => Option.isSome_iff_exists.mpr (h s hs)⟩
theorem sum_le {α : Type} {f g : α → Nat} : ∀ {l : List α}, (∀ x ∈ l, f x ≤ g x) → (l.map f).sum ≤ (l.map g).sum
  | [], _ => Nat.le_refl _
  | x :: l, h => by
    rw [List.map_cons, List.map_cons, List.sum_cons, List.sum_cons]
    have := h x (by simp)
    have := sum_le (l := l) fun y hy => h y (by simp [hy])
    omega
theorem inL_le {l m : Ls} {r : Rl} (a : LeL l m) (h : inL l r = true) : inL m r = true ∧ smL m r ≤ smL l r := by
  refine ⟨inL_iff.mpr fun s hs => ?_, sum_le fun s hs => ?_⟩
  · obtain ⟨v, hv⟩ := inL_iff.mp h s hs
    obtain ⟨w, hw, _⟩ := a _ _ hv
    exact ⟨w, hw⟩
  · obtain ⟨v, hv⟩ := inL_iff.mp h s hs
    obtain ⟨w, hw, h2⟩ := a _ _ hv
    rw [hv, hw]
    exact h2
theorem foldl_inv {α β : Type} {f : β → α → β} (P : β → Prop) : ∀ (l : List α) (b : β), P b → (∀ x ∈ l, ∀ b, P b → P (f b x)) → P (l.foldl f b)
  | [], _, h, _ => h
  | x :: l, b, h, k => foldl_inv P l (f b x) (k x (by simp) b h) fun y hy => k y (by simp [hy])
theorem trn_le {b : Bk} (l : Ls) : LeL l (trn b l) := foldl_inv (LeL l) _ _ .refl fun r _ m h => h.trans (stp_le m r)
theorem lsts_le (b : Bk) : ∀ {m n : Nat}, m ≤ n → LeL (lsts b m) (lsts b n)
  | m, 0, h => by
    have : m = 0 := by omega
    subst this
    exact .refl
  | m, n + 1, h => by
    by_cases e : m = n + 1
    · subst e
      exact .refl
    · exact (lsts_le b (by omega)).trans (trn_le _)
section
variable {k : Nat} {S : Sto} {Q : D → Sto → Prop}
end
inductive Tr where
  | nd (n : Nat) (ps : List Tr)
mutual
def Tr.d : Tr → D
  | .nd n ps => .tup [natD n, .tup (Trs.d ps)]
def Trs.d : List Tr → List D
  | [] => []
  | t :: r => t.d :: Trs.d r
end
mutual
theorem pd_tr : ∀ t : Tr, Pd t.d
  | .nd n ps => by
    rw [Tr.d]
    exact ⟨trivial, pd_trs ps, trivial⟩
theorem pd_trs : ∀ ps : List Tr, belows 0 (Trs.d ps)
  | [] => trivial
  | t :: r => ⟨pd_tr t, pd_trs r⟩
end
def Tr.num : Tr → Nat
  | .nd n _ => n
def Tr.kids : Tr → List Tr
  | .nd _ ps => ps
mutual
def Tr.pre : Tr → List Tr
  | .nd n ps => .nd n ps :: pres ps
def pres : List Tr → List Tr
  | [] => []
  | t :: r => t.pre ++ pres r
end
theorem pre_eq (t : Tr) : t.pre = t :: pres t.kids := by
  cases t
  rw [Tr.pre]
  rfl
mutual
/-- a build of a name -/
def Wf (b : Bk) (nm : Str) : Tr → Prop
  | .nd n ps => ∃ r, b.rls[n]? = some r ∧ r.nm = nm ∧ Wfs b (r.sl.map (·.nm)) ps
def Wfs (b : Bk) : List Str → List Tr → Prop
  | [], [] => True
  | x :: xs, t :: ts => Wf b x t ∧ Wfs b xs ts
  | [], _ :: _ => False
  | _ :: _, [] => False
end
theorem Wfs.len {b : Bk} : ∀ {xs : List Str} {ts : List Tr}, Wfs b xs ts → ts.length = xs.length
  | [], [], _ => rfl
  | _ :: xs, _ :: ts, h => by
    rw [Wfs] at h
    rw [List.length_cons, List.length_cons, Wfs.len h.2]
  | [], _ :: _, h => by simp [Wfs] at h
  | _ :: _, [], h => by simp [Wfs] at h
theorem Wfs.split {b : Bk} : ∀ {xs ys : List Str} {ts : List Tr}, Wfs b (xs ++ ys) ts → Wfs b xs (ts.take xs.length) ∧ Wfs b ys (ts.drop xs.length)
  | [], ys, ts, h => ⟨by simp [Wfs], h⟩
  | x :: xs, ys, [], h => by simp [Wfs] at h
  | x :: xs, ys, t :: ts, h => by
    rw [List.cons_append, Wfs] at h
    obtain ⟨h1, h2⟩ := Wfs.split h.2
    refine ⟨?_, h2⟩
    rw [List.length_cons, List.take_succ_cons, Wfs]
    exact ⟨h.1, h1⟩
mutual
theorem Wf.lt {b : Bk} : ∀ {nm : Str} (t : Tr), Wf b nm t → ∀ x ∈ t.pre, x.num < b.rls.length
  | nm, .nd n ps, h, x, hx => by
    rw [Wf] at h
    obtain ⟨r, h1, h2, h3⟩ := h
    rw [Tr.pre] at hx
    rcases List.mem_cons.mp hx with rfl | hx
    · exact (List.getElem?_eq_some_iff.mp h1).1
    · exact Wfs.lt ps h3 x hx
theorem Wfs.lt {b : Bk} : ∀ {xs : List Str} (ts : List Tr), Wfs b xs ts → ∀ x ∈ pres ts, x.num < b.rls.length
  | _, [], _, x, hx => by simp [pres] at hx
  | [], t :: ts, h, x, hx => by simp [Wfs] at h
  | _ :: _, t :: ts, h, x, hx => by
    rw [Wfs] at h
    rw [pres] at hx
    rcases List.mem_append.mp hx with hx | hx
    · exact Wf.lt t h.1 x hx
    · exact Wfs.lt ts h.2 x hx
end
section
variable {k : Nat} {S : Sto} {Q : D → Sto → Prop}
end
section
variable {k : Nat} {S : Sto} {Q : D → Sto → Prop}
end
section
variable {k : Nat} {R : Sto} {Q : D → Sto → Prop} {d : DS} {m : Int}
variable {A g : Sto} {rows : List (Nat × Nat)} {wt : List Str}
end
def wOf (ws : List Nat) (i : Nat) : Nat := ws.getD i 0
structure WsOk (b : Bk) (ws : List Nat) : Prop where
  len : ws.length = b.rls.length
  lo : ∀ w ∈ ws, 1 ≤ w
  hi : ∀ w ∈ ws, w ≤ 300
theorem WsOk.at {b : Bk} {ws : List Nat} (o : WsOk b ws) {i : Nat} (h : i < b.rls.length) : atI (ws.map natD) (i : Int) = some (natD (wOf ws i)) ∧ 1 ≤ wOf ws i ∧ wOf ws i ≤ 300 := by
  have h' : i < ws.length := by rw [o.len]; exact h
  have e : wOf ws i = ws[i] := by simp [wOf, List.getD, h']
  rw [e]
  exact ⟨at_map _ _ _ h', o.lo _ (List.getElem_mem h'), o.hi _ (List.getElem_mem h')⟩
section
variable {k : Nat} {S : Sto} {Q : D → Sto → Prop} {b : Bk} {ws : List Nat}
end
def leafB (b : Bk) (s : Str) : Bool := b.rls.any fun r => decide (r.nm = s) && r.sl.isEmpty
theorem fold_le (rs : List Rl) (l : Ls) : LeL l (rs.foldl stp l) := foldl_inv (LeL l) _ _ .refl fun r _ m h => h.trans (stp_le m r)
theorem stp_at {l : Ls} {r : Rl} (hi : inL l r = true) : ∃ w, gS (stp l r) r.nm = some w ∧ w ≤ 1 + smL l r := by
  unfold stp
  rw [if_pos hi]
  split
  · exact ⟨_, by rw [gS_pS, if_pos rfl], Nat.le_refl _⟩
  · rename_i w e
    split
    · exact ⟨_, by rw [gS_pS, if_pos rfl], Nat.le_refl _⟩
    · exact ⟨w, e, by omega⟩
theorem trn_at {b : Bk} {l : Ls} {r : Rl} (hr : r ∈ b.rls) (hi : inL l r = true) : ∃ w, gS (trn b l) r.nm = some w ∧ w ≤ 1 + smL l r := by
  obtain ⟨as, bs, e⟩ := List.append_of_mem hr
  unfold trn
  rw [e, List.foldl_append, List.foldl_cons]
  obtain ⟨h1, h2⟩ := inL_le (fold_le as l) hi
  obtain ⟨w, e1, e2⟩ := stp_at h1
  obtain ⟨w', e3, e4⟩ := fold_le bs _ _ _ e1
  exact ⟨w', e3, by omega⟩
theorem leaf_at {b : Bk} {s : Str} (h : leafB b s = true) : ∃ u, gS (lsts b 1) s = some u ∧ u ≤ 1 := by
  obtain ⟨r, hr, q⟩ := List.any_eq_true.mp h
  simp only [Bool.and_eq_true, decide_eq_true_eq, List.isEmpty_iff] at q
  obtain ⟨q1, q2⟩ := q
  have hi : inL [] r = true := by simp [inL, q2]
  obtain ⟨w, e1, e2⟩ := trn_at hr hi
  rw [q1] at e1
  exact ⟨w, e1, by simpa [smL, q2] using e2⟩
inductive Gt where
  | nd (x : D) (ks : List Gt)
def Gt.d : Gt → D
  | .nd x _ => x
def Gt.kids : Gt → List Gt
  | .nd _ ks => ks
mutual
def Gt.pre : Gt → List Gt
  | .nd n ps => .nd n ps :: gpres ps
def gpres : List Gt → List Gt
  | [] => []
  | t :: r => t.pre ++ gpres r
end
theorem gpre_eq (t : Gt) : t.pre = t :: gpres t.kids := by
  cases t
  rw [Gt.pre]
  rfl
def gstarts : Nat → List Gt → List Nat
  | _, [] => []
  | s, t :: r => s :: gstarts (s + t.pre.length) r
/-- where those that wait will stand -/
def gpend (i : Nat) : Nat → List (Gt × Int) → List Nat
  | _, [] => []
  | s, (t, a) :: w => (if a = (i : Int) then [s] else []) ++ gpend i (s + t.pre.length) w
abbrev gwpre (w : List (Gt × Int)) : List Gt := w.flatMap fun p => p.1.pre
structure GFS (t : Gt) (ns : List Gt) (js : List Nat) (cs : List (List Nat)) (wt : List (Gt × Int)) (g : Sto) : Prop where
  jl : js.length = ns.length
  cl : cs.length = ns.length
  inc : js.Pairwise (· < ·)
  jlt : ∀ j ∈ js, j < g.length
  cell : ∀ (i j : Nat) (c : List Nat), js[i]? = some j → cs[i]? = some c → g[j]? = some (.lst (c.map natD))
  ab : ∀ p ∈ wt, p.2 = -1 ∨ ∃ a : Nat, p.2 = (a : Int) ∧ a < ns.length
  pre : ns ++ gwpre wt = t.pre
  fin : ∀ (i : Nat) (x : Gt) (c : List Nat), ns[i]? = some x → cs[i]? = some c → c ++ gpend i ns.length wt = gstarts (i + 1) x.kids
theorem GFS.len {t : Gt} {ns : List Gt} {js : List Nat} {cs : List (List Nat)} {x : Gt} {a : Int} {w : List (Gt × Int)} {g : Sto} (h : GFS t ns js cs ((x, a) :: w) g) : ns.length < t.pre.length := by
  have := congrArg List.length h.pre
  rw [List.length_append] at this
  have e : gwpre ((x, a) :: w) = x.pre ++ gwpre w := rfl
  rw [e, gpre_eq, List.length_append, List.length_cons] at this
  omega
theorem GFS.mem {t : Gt} {ns : List Gt} {js : List Nat} {cs : List (List Nat)} {x : Gt} {a : Int} {w : List (Gt × Int)} {g : Sto} (h : GFS t ns js cs ((x, a) :: w) g) : x ∈ t.pre := by
  rw [← h.pre]
  have e : gwpre ((x, a) :: w) = x.pre ++ gwpre w := rfl
  rw [e, gpre_eq]
  simp
structure GFlat (S G : Sto) (t : Gt) (a b : Nat) : Prop where
  na : (S ++ G)[a]? = some (.lst (t.pre.map Gt.d))
  nb : ∃ rs : List Nat, (S ++ G)[b]? = some (.lst (rs.map D.ref)) ∧ rs.length = t.pre.length ∧ ∀ (i r : Nat) (x : Gt), rs[i]? = some r → t.pre[i]? = some x → (S ++ G)[r]? = some (.lst ((gstarts (i + 1) x.kids).map natD))
theorem GFlat.pre {S G g : Sto} {t : Gt} {a b : Nat} (h : GFlat S G t a b) : GFlat S (G ++ g) t a b := by
  obtain ⟨h1, rs, h2, h3, h4⟩ := h
  refine ⟨by rw [← List.append_assoc]; exact get_pre h1, rs, by rw [← List.append_assoc]; exact get_pre h2, h3, fun i r x q1 q2 => by rw [← List.append_assoc]; exact get_pre (h4 i r x q1 q2)⟩
section
variable {k : Nat} {S : Sto} {Q : D → Sto → Prop} {ns : List Gt} {js : List Nat} {wt : List (Gt × Int)} {g : Sto} {t : Gt}
end
section
variable {k : Nat} {S : Sto} {Q : D → Sto → Prop} {t : Gt}
end
def goff (k : Nat) (ks : List Gt) : Nat := (gpres (ks.take k)).length
theorem goff_succ (k : Nat) (t : Gt) (ks : List Gt) : goff (k + 1) (t :: ks) = t.pre.length + goff k ks := by
  unfold goff
  rw [List.take_succ_cons, gpres, List.length_append]
mutual
theorem gparent : ∀ (t : Gt) (p : Nat), p + 1 < t.pre.length → ∃ i x k, i < p + 1 ∧ t.pre[i]? = some x ∧ k < x.kids.length ∧ p + 1 = i + 1 + goff k x.kids
  | .nd a ks, p, h => by
    rw [Gt.pre] at h ⊢
    rw [List.length_cons] at h
    rcases gparents ks p (by omega) with ⟨k, h1, h2⟩ | ⟨i, x, k, h1, h2, h3, h4⟩
    · exact ⟨0, .nd a ks, k, by omega, rfl, h1, by show p + 1 = 0 + 1 + goff k ks; omega⟩
    · exact ⟨i + 1, x, k, by omega, by simpa using h2, h3, by omega⟩
theorem gparents : ∀ (ts : List Gt) (p : Nat), p < (gpres ts).length → (∃ k, k < ts.length ∧ p = goff k ts) ∨ ∃ i x k, i < p ∧ (gpres ts)[i]? = some x ∧ k < x.kids.length ∧ p = i + 1 + goff k x.kids
  | [], p, h => by simp [gpres] at h
  | t :: ts, p, h => by
    rw [gpres, List.length_append] at h
    by_cases c : p < t.pre.length
    · cases p with
      | zero => exact .inl ⟨0, by simp, by simp [goff, gpres]⟩
      | succ p =>
        obtain ⟨i, x, k, h1, h2, h3, h4⟩ := gparent t p c
        refine .inr ⟨i, x, k, h1, ?_, h3, h4⟩
        rw [gpres, List.getElem?_append_left (List.getElem?_eq_some_iff.mp h2).1]
        exact h2
    · rcases gparents ts (p - t.pre.length) (by omega) with ⟨k, h1, h2⟩ | ⟨i, x, k, h1, h2, h3, h4⟩
      · exact .inl ⟨k + 1, by simpa using h1, by rw [goff_succ]; omega⟩
      · refine .inr ⟨i + t.pre.length, x, k, by omega, ?_, h3, by omega⟩
        rw [gpres, List.getElem?_append_right (by omega), Nat.add_sub_cancel]
        exact h2
end
mutual
def Gt.dn {β : Type} (f : Gt → β → Nat → β) : Gt → β → List β
  | .nd x ks, v => v :: gdns f ks (f (.nd x ks) v)
def gdns {β : Type} (f : Gt → β → Nat → β) : List Gt → (Nat → β) → List β
  | [], _ => []
  | t :: ts, g => t.dn f (g 0) ++ gdns f ts fun k => g (k + 1)
end
section
variable {β : Type} {f : Gt → β → Nat → β}
theorem gat_eq (t : Gt) (v : β) : t.dn f v = v :: gdns f t.kids (f t v) := by
  cases t
  rw [Gt.dn]
  rfl
mutual
theorem gat_len : ∀ (t : Gt) (v : β), (t.dn f v).length = t.pre.length
  | .nd x ks, v => by rw [Gt.dn, Gt.pre, List.length_cons, List.length_cons, gats_len ks]
theorem gats_len : ∀ (ts : List Gt) (g : Nat → β), (gdns f ts g).length = (gpres ts).length
  | [], _ => rfl
  | t :: ts, g => by rw [gdns, gpres, List.length_append, List.length_append, gat_len t, gats_len ts]
end
theorem gats_at : ∀ (ks : List Gt) (g : Nat → β) (k : Nat), k < ks.length → (gdns f ks g)[goff k ks]? = some (g k)
  | [], _, _, h => by simp at h
  | t :: ks, g, 0, _ => by
    rw [gdns, gat_eq]
    simp [goff, gpres]
  | t :: ks, g, k + 1, h => by
    rw [goff_succ, gdns, List.getElem?_append_right (by rw [gat_len]; omega), gat_len, Nat.add_sub_cancel_left]
    exact gats_at ks _ k (by simpa using h)
mutual
theorem gat_kid : ∀ (t : Gt) (v : β) (i : Nat) (x : Gt) (u : β) (k : Nat), t.pre[i]? = some x → (t.dn f v)[i]? = some u → k < x.kids.length → (t.dn f v)[i + 1 + goff k x.kids]? = some (f x u k)
  | .nd a ks, v, 0, x, u, k, h, h2, h3 => by
    rw [Gt.pre] at h
    rw [Gt.dn] at h2 ⊢
    simp at h h2
    subst h h2
    rw [show 0 + 1 + goff k (Gt.nd a ks).kids = goff k ks + 1 from by simp [Gt.kids]; omega, List.getElem?_cons_succ]
    exact gats_at ks _ k h3
  | .nd a ks, v, i + 1, x, u, k, h, h2, h3 => by
    rw [Gt.pre] at h
    rw [Gt.dn] at h2 ⊢
    rw [show i + 1 + 1 + goff k x.kids = (i + 1 + goff k x.kids) + 1 from by omega, List.getElem?_cons_succ]
    exact gats_kid ks _ i x u k (by simpa using h) (by simpa using h2) h3
theorem gats_kid : ∀ (ts : List Gt) (g : Nat → β) (i : Nat) (x : Gt) (u : β) (k : Nat), (gpres ts)[i]? = some x → (gdns f ts g)[i]? = some u → k < x.kids.length → (gdns f ts g)[i + 1 + goff k x.kids]? = some (f x u k)
  | [], _, i, x, u, k, h, _, _ => by simp [gpres] at h
  | t :: ts, g, i, x, u, k, h, h2, h3 => by
    rw [gpres] at h
    rw [gdns] at h2 ⊢
    by_cases c : i < t.pre.length
    · rw [List.getElem?_append_left c] at h
      rw [List.getElem?_append_left (by rw [gat_len]; exact c)] at h2
      have := gat_kid t (g 0) i x u k h h2 h3
      rw [List.getElem?_append_left (List.getElem?_eq_some_iff.mp this).1]
      exact this
    · rw [List.getElem?_append_right (by omega)] at h
      rw [List.getElem?_append_right (by rw [gat_len]; omega), gat_len] at h2
      rw [List.getElem?_append_right (by rw [gat_len]; omega), gat_len, show i + 1 + goff k x.kids - t.pre.length = (i - t.pre.length) + 1 + goff k x.kids from by omega]
      exact gats_kid ts _ _ x u k h h2 h3
end
end
mutual
def okD : D → Prop
  | .non => True
  | .bl _ => True
  | .int _ => True
  | .str x => PyData.strOk x = true
  | .tup ds => okDs ds
  | .fix ds => okDs ds
  | .ref _ => False
def okDs : List D → Prop
  | [] => True
  | d :: ds => okD d ∧ okDs ds
end
mutual
def depD : D → Nat
  | .non => 0
  | .bl _ => 0
  | .int _ => 0
  | .str _ => 0
  | .tup ds => depDs ds + 1
  | .fix ds => depDs ds + 1
  | .ref _ => 0
def depDs : List D → Nat
  | [] => 0
  | d :: ds => max (depD d) (depDs ds)
end
mutual
theorem toPW_ok : ∀ d : D, okD d → ∃ p : PyData, (∀ f, toPW f d = some p) ∧ p.canLay0 = true ∧ p.depth = depD d
  | .non, _ => ⟨.none, fun _ => rfl, rfl, rfl⟩
  | .bl b, _ => ⟨.bool b, fun _ => rfl, rfl, rfl⟩
  | .int i, _ => ⟨.int i, fun _ => rfl, rfl, rfl⟩
  | .str x, h => ⟨.str x, fun _ => rfl, by simpa [PyData.canLay0, okD] using h, rfl⟩
  | .tup ds, h => by
    obtain ⟨ps, h1, h2, h3⟩ := toPsW_ok ds h
    exact ⟨.tuple ps, fun f => by rw [toPW, h1]; rfl, by rw [PyData.canLay0]; exact h2, by rw [PyData.depth, depD, h3]⟩
  | .fix ds, h => by
    obtain ⟨ps, h1, h2, h3⟩ := toPsW_ok ds h
    exact ⟨.list ps, fun f => by rw [toPW, h1]; rfl, by rw [PyData.canLay0]; exact h2, by rw [PyData.depth, depD, h3]⟩
  | .ref _, h => h.elim
theorem toPsW_ok : ∀ ds : List D, okDs ds → ∃ ps : List PyData, (∀ f, toPsW f ds = some ps) ∧ PyData.canLayAll0 ps = true ∧ PyData.depthAll ps = depDs ds
  | [], _ => ⟨[], fun _ => rfl, rfl, rfl⟩
  | d :: ds, h => by
    obtain ⟨p, h1, h2, h3⟩ := toPW_ok d h.1
    obtain ⟨ps, h4, h5, h6⟩ := toPsW_ok ds h.2
    exact ⟨p :: ps, fun f => by rw [toPsW, h1, h4], by rw [PyData.canLayAll0, h2, h5]; rfl, by rw [PyData.depthAll, depDs, h3, h6]⟩
end
theorem okDs_iff : ∀ {ds : List D}, okDs ds ↔ ∀ d ∈ ds, okD d
  | [] => by simp [okDs]
  | d :: ds => by simp [okDs, okDs_iff (ds := ds)]
theorem depDs_le {n : Nat} : ∀ {ds : List D}, depDs ds ≤ n ↔ ∀ d ∈ ds, depD d ≤ n
  | [] => by simp [depDs]
  | d :: ds => by simp [depDs, Nat.max_le, depDs_le (ds := ds)]
theorem okD_tup {ds : List D} : okD (.tup ds) ↔ ∀ d ∈ ds, okD d := by rw [okD]; exact okDs_iff
inductive Ht where
  | nd (n : Nat) (hd : List D) (ks : List Ht)
  | hole
mutual
def Ht.d : Ht → D
  | .nd n hd ks => .tup (natD n :: (hd ++ [.tup (htd ks)]))
  | .hole => .non
def htd : List Ht → List D
  | [] => []
  | t :: r => t.d :: htd r
end
theorem htd_map : ∀ ps : List Ht, htd ps = ps.map Ht.d
  | [] => rfl
  | t :: r => by rw [htd, htd_map r]; rfl
theorem ht_d (n : Nat) (hd : List D) (ks : List Ht) : (Ht.nd n hd ks).d = .tup (natD n :: (hd ++ [.tup (ks.map Ht.d)])) := by rw [Ht.d, htd_map]
def Ht.kids : Ht → List Ht
  | .nd _ _ ks => ks
  | .hole => []
def Ht.num : Ht → Nat
  | .nd n _ _ => n
  | .hole => 0
mutual
def Ht.g : Ht → Gt
  | .nd n hd ks => .nd (Ht.nd n hd ks).d (htg ks)
  | .hole => .nd .non []
def htg : List Ht → List Gt
  | [] => []
  | t :: r => t.g :: htg r
end
theorem htg_map : ∀ ps : List Ht, htg ps = ps.map Ht.g
  | [] => rfl
  | t :: r => by rw [htg, htg_map r]; rfl
theorem hg_kids (t : Ht) : t.g.kids = t.kids.map Ht.g := by
  cases t with
  | nd n hd ks => rw [Ht.g, ← htg_map]; rfl
  | hole => rw [Ht.g]; rfl
mutual
def Ht.pre : Ht → List Ht
  | .nd n hd ks => .nd n hd ks :: hpres ks
  | .hole => [.hole]
def hpres : List Ht → List Ht
  | [] => []
  | t :: r => t.pre ++ hpres r
end
theorem hpre_eq (t : Ht) : t.pre = t :: hpres t.kids := by
  cases t with
  | nd n hd ks => rw [Ht.pre]; rfl
  | hole => rw [Ht.pre]; rfl
mutual
theorem hg_pre : ∀ t : Ht, t.g.pre = t.pre.map Ht.g
  | .nd n hd ks => by
    have := hg_pres ks
    rw [gpre_eq, hg_kids, hpre_eq, List.map_cons]
    exact congrArg _ this
  | .hole => by
    rw [gpre_eq, hg_kids, hpre_eq, List.map_cons]
    rfl
theorem hg_pres : ∀ ts : List Ht, gpres (ts.map Ht.g) = (hpres ts).map Ht.g
  | [] => rfl
  | t :: ts => by rw [List.map_cons, gpres, hpres, List.map_append, hg_pre t, hg_pres ts]
end
theorem hg_len (t : Ht) : t.g.pre.length = t.pre.length := by rw [hg_pre, List.length_map]
mutual
def Tr.h : Tr → Ht
  | .nd n ps => .nd n [] (trh ps)
def trh : List Tr → List Ht
  | [] => []
  | t :: r => t.h :: trh r
end
theorem trh_map : ∀ ps : List Tr, trh ps = ps.map Tr.h
  | [] => rfl
  | t :: r => by rw [trh, trh_map r]; rfl
theorem th_nd (n : Nat) (ps : List Tr) : (Tr.nd n ps).h = .nd n [] (ps.map Tr.h) := by rw [Tr.h, trh_map]
mutual
theorem th_d : ∀ t : Tr, t.h.d = t.d
  | .nd n ps => by rw [Tr.h, Ht.d, Tr.d, trh_d ps]; rfl
theorem trh_d : ∀ ps : List Tr, htd (trh ps) = Trs.d ps
  | [] => rfl
  | t :: r => by rw [trh, htd, Trs.d, th_d t, trh_d r]
end
theorem th_kids (t : Tr) : t.h.kids = t.kids.map Tr.h := by
  cases t
  rw [th_nd]
  rfl
mutual
theorem th_pre : ∀ t : Tr, t.h.pre = t.pre.map Tr.h
  | .nd n ps => by
    have := th_pres ps
    rw [hpre_eq, th_kids, pre_eq, List.map_cons]
    exact congrArg _ this
theorem th_pres : ∀ ts : List Tr, hpres (ts.map Tr.h) = (pres ts).map Tr.h
  | [] => rfl
  | t :: ts => by rw [List.map_cons, hpres, pres, List.map_append, th_pre t, th_pres ts]
end
section
variable {β : Type} {t : Gt} {A B : List β} {i m : Nat} {x : Gt}
end
theorem GFlat.below {S G : Sto} {t : Gt} {a b : Nat} (h : GFlat S G t a b) : ∃ rs : List Nat, (S ++ G)[b]? = some (.lst (rs.map D.ref)) ∧ rs.length = t.pre.length ∧ ∀ (i : Nat) (x : Gt), t.pre[i]? = some x → ∃ r, atI (rs.map D.ref) (i : Int) = some (.ref r) ∧ (S ++ G)[r]? = some (.lst ((gstarts (i + 1) x.kids).map natD)) := by
  obtain ⟨rs, h1, h2, h3⟩ := h.nb
  refine ⟨rs, h1, h2, fun i x hx => ?_⟩
  have hi : i < rs.length := by rw [h2]; exact (List.getElem?_eq_some_iff.mp hx).1
  exact ⟨rs[i], at_map _ _ _ hi, h3 i _ x (List.getElem?_eq_getElem hi) hx⟩
def hoff (k : Nat) (ks : List Ht) : Nat := (hpres (ks.take k)).length
theorem hoff_g (k : Nat) (ks : List Ht) : goff k (ks.map Ht.g) = hoff k ks := by
  unfold goff hoff
  rw [← List.map_take, hg_pres, List.length_map]
theorem hoff_succ (k : Nat) (t : Ht) (ks : List Ht) : hoff (k + 1) (t :: ks) = t.pre.length + hoff k ks := by
  unfold hoff
  rw [List.take_succ_cons, hpres, List.length_append]
theorem hpres_at : ∀ (ks : List Ht) (k : Nat) (y : Ht), ks[k]? = some y → (hpres ks)[hoff k ks]? = some y
  | [], _, _, h => by simp at h
  | t :: ks, 0, y, h => by
    simp at h
    subst h
    rw [hpres, hpre_eq]
    simp [hoff, hpres]
  | t :: ks, k + 1, y, h => by
    rw [hoff_succ, hpres, List.getElem?_append_right (by omega), Nat.add_sub_cancel_left]
    exact hpres_at ks k y (by simpa using h)
mutual
theorem hpre_kid' : ∀ (t : Ht) (i : Nat) (x : Ht) (k : Nat) (y : Ht), t.pre[i]? = some x → x.kids[k]? = some y → t.pre[i + 1 + hoff k x.kids]? = some y
  | .nd a b ks, 0, x, k, y, h, h2 => by
    rw [Ht.pre] at h ⊢
    simp at h
    subst h
    rw [show 0 + 1 + hoff k (Ht.nd a b ks).kids = hoff k ks + 1 from by simp [Ht.kids]; omega, List.getElem?_cons_succ]
    exact hpres_at ks k y h2
  | .nd a b ks, i + 1, x, k, y, h, h2 => by
    rw [Ht.pre] at h ⊢
    rw [show i + 1 + 1 + hoff k x.kids = (i + 1 + hoff k x.kids) + 1 from by omega, List.getElem?_cons_succ]
    exact hpres_kid ks i x k y (by simpa using h) h2
  | .hole, 0, x, k, y, h, h2 => by
    rw [Ht.pre] at h
    simp at h
    subst h
    simp [Ht.kids] at h2
  | .hole, i + 1, x, k, y, h, h2 => by
    rw [Ht.pre] at h
    simp at h
theorem hpres_kid : ∀ (ts : List Ht) (i : Nat) (x : Ht) (k : Nat) (y : Ht), (hpres ts)[i]? = some x → x.kids[k]? = some y → (hpres ts)[i + 1 + hoff k x.kids]? = some y
  | [], i, x, k, y, h, _ => by simp [hpres] at h
  | t :: ts, i, x, k, y, h, h2 => by
    rw [hpres] at h ⊢
    by_cases c : i < t.pre.length
    · rw [List.getElem?_append_left c] at h
      have := hpre_kid' t i x k y h h2
      rw [List.getElem?_append_left (List.getElem?_eq_some_iff.mp this).1]
      exact this
    · rw [List.getElem?_append_right (by omega)] at h
      rw [List.getElem?_append_right (by omega), show i + 1 + hoff k x.kids - t.pre.length = (i - t.pre.length) + 1 + hoff k x.kids from by omega]
      exact hpres_kid ts _ x k y h h2
end
theorem hpre_kid (t : Ht) (i : Nat) (x : Ht) (k : Nat) (y : Ht) (h : t.pre[i]? = some x) (h2 : x.kids[k]? = some y) : t.pre[i + 1 + goff k (x.kids.map Ht.g)]? = some y := by
  rw [hoff_g]
  exact hpre_kid' t i x k y h h2
def Ht.sub : Ht → List Nat → Option Ht
  | t, [] => some t
  | t, k :: p => (t.kids[k]?).bind fun y => y.sub p
theorem sub_app : ∀ (t : Ht) (p : List Nat) (k : Nat), t.sub (p ++ [k]) = (t.sub p).bind fun x => x.kids[k]?
  | t, [], k => by
    show (t.kids[k]?).bind (fun y => y.sub []) = _
    simp [Ht.sub]
  | t, j :: p, k => by
    rw [List.cons_append, Ht.sub, Ht.sub]
    cases t.kids[j]? with
    | none => rfl
    | some y => exact sub_app y p k
def paths (t : Ht) : List (List Nat) := t.g.dn (fun _ u k => u ++ [k]) []
theorem paths_len (t : Ht) : (paths t).length = t.pre.length := by
  unfold paths
  rw [gat_len, hg_len]
theorem hg_get {t : Ht} {i : Nat} {x : Gt} (h : t.g.pre[i]? = some x) : ∃ y, t.pre[i]? = some y ∧ x = y.g := by
  rw [hg_pre, List.getElem?_map] at h
  cases e : t.pre[i]? with
  | none => rw [e] at h; cases h
  | some y => rw [e] at h; cases h; exact ⟨y, rfl, rfl⟩
theorem paths_sub (t : Ht) : ∀ (i : Nat) (x : Ht) (p : List Nat), t.pre[i]? = some x → (paths t)[i]? = some p → t.sub p = some x := by
  intro i
  induction i using Nat.strongRecOn with
  | _ i ih =>
  intro x p hx hp
  cases i with
  | zero =>
    rw [hpre_eq] at hx
    unfold paths at hp
    rw [gat_eq] at hp
    simp at hx hp
    subst hx hp
    rfl
  | succ q =>
    have hq : q + 1 < t.g.pre.length := by rw [hg_len]; exact (List.getElem?_eq_some_iff.mp hx).1
    obtain ⟨j, y, k, h1, h2, h3, h4⟩ := gparent t.g q hq
    obtain ⟨z, hz, rfl⟩ := hg_get h2
    have hu : ∃ u, (paths t)[j]? = some u := ⟨_, List.getElem?_eq_getElem (by rw [paths_len]; exact (List.getElem?_eq_some_iff.mp hz).1)⟩
    obtain ⟨u, hu⟩ := hu
    have := ih j h1 z u hz hu
    have hk := gat_kid (f := fun _ u k => u ++ [k]) t.g [] j z.g u k h2 hu h3
    rw [← h4] at hk
    have hp : (t.g.dn (fun _ u k => u ++ [k]) [])[q + 1]? = some p := hp
    rw [hk] at hp
    cases hp
    rw [sub_app, this]
    rw [hg_kids, List.length_map] at h3
    have e : z.kids[k]? = some z.kids[k] := List.getElem?_eq_getElem h3
    have := hpre_kid t j z k (z.kids[k]) hz e
    rw [← hg_kids, ← h4, hx] at this
    rw [Option.some.inj this]
    exact e

theorem pd_nd {n : Nat} {hd : List D} {ks : List Ht} : Pd (Ht.nd n hd ks).d ↔ (∀ d ∈ hd, Pd d) ∧ ∀ y ∈ ks, Pd y.d := by
  rw [ht_d, pd_tup]
  constructor
  · intro h
    refine ⟨fun d hd' => h d (by simp [hd']), fun y hy => ?_⟩
    have := h (.tup (ks.map Ht.d)) (by simp)
    rw [pd_tup] at this
    exact this _ (List.mem_map_of_mem hy)
  · rintro ⟨h1, h2⟩ d hd'
    simp only [List.mem_cons, List.mem_append, List.not_mem_nil, or_false] at hd'
    rcases hd' with rfl | hd' | rfl
    · trivial
    · exact h1 d hd'
    · exact pd_map h2
theorem pd_sub : ∀ (t : Ht) (p : List Nat) (y : Ht), Pd t.d → t.sub p = some y → Pd y.d
  | t, [], y, h, e => by
    rw [Ht.sub] at e
    rw [← Option.some.inj e]
    exact h
  | .hole, k :: p, y, h, e => by
    rw [Ht.sub] at e
    simp [Ht.kids] at e
  | .nd n hd ks, k :: p, y, h, e => by
    rw [Ht.sub] at e
    obtain ⟨z, e1, e2⟩ := Option.bind_eq_some_iff.mp e
    exact pd_sub z p y ((pd_nd.mp h).2 z (List.mem_of_getElem? e1)) e2
theorem hok_nd {n : Nat} {hd : List D} {ks : List Ht} : okD (Ht.nd n hd ks).d ↔ (∀ d ∈ hd, okD d) ∧ ∀ y ∈ ks, okD y.d := by
  rw [ht_d, okD_tup]
  constructor
  · intro h
    refine ⟨fun d hd' => h d (by simp [hd']), fun y hy => ?_⟩
    have := h (.tup (ks.map Ht.d)) (by simp)
    rw [okD_tup] at this
    exact this _ (List.mem_map_of_mem hy)
  · rintro ⟨h1, h2⟩ d hd'
    simp only [List.mem_cons, List.mem_append, List.not_mem_nil, or_false] at hd'
    rcases hd' with rfl | hd' | rfl
    · trivial
    · exact h1 d hd'
    · rw [okD_tup]
      intro d hd'
      obtain ⟨y, hy, rfl⟩ := List.mem_map.mp hd'
      exact h2 y hy
theorem kid_nd {z y : Ht} {k : Nat} (h : z.kids[k]? = some y) : ∃ n hd ks, z = .nd n hd ks ∧ ks[k]? = some y := by
  cases z with
  | nd n hd ks => exact ⟨n, hd, ks, rfl, h⟩
  | hole => simp [Ht.kids] at h
theorem kid_mem : ∀ {ks : List Ht} {k : Nat} {y : Ht}, ks[k]? = some y → ∀ x ∈ y.pre, x ∈ hpres ks
  | [], _, _, h, _, _ => by simp at h
  | t :: ks, 0, y, h, x, hx => by
    simp at h
    subst h
    rw [hpres]
    exact List.mem_append_left _ hx
  | t :: ks, k + 1, y, h, x, hx => by
    rw [hpres]
    exact List.mem_append_right _ (kid_mem (by simpa using h) x hx)
theorem sub_pre : ∀ {p : List Nat} {t y : Ht}, t.sub p = some y → ∀ x ∈ y.pre, x ∈ t.pre
  | [], t, y, h, x, hx => by
    rw [Ht.sub] at h
    rw [Option.some.inj h]
    exact hx
  | k :: p, t, y, h, x, hx => by
    rw [Ht.sub] at h
    obtain ⟨z, e1, e2⟩ := Option.bind_eq_some_iff.mp h
    rw [hpre_eq]
    exact List.mem_cons_of_mem _ (kid_mem e1 x (sub_pre e2 x hx))
theorem sub_mem {p : List Nat} {t y : Ht} (h : t.sub p = some y) : y ∈ t.pre := sub_pre h y (by rw [hpre_eq]; simp)
section
variable {k : Nat} {S : Sto} {Q : D → Sto → Prop} {t o y : Ht} {p : List Nat}
end
abbrev pD (p : List Nat) : D := .tup (p.map natD)
def Blw (S : Sto) (t : Gt) (b : Nat) : Prop := ∃ rs : List Nat, S[b]? = some (.lst (rs.map D.ref)) ∧ rs.length = t.pre.length ∧ ∀ (i : Nat) (x : Gt), t.pre[i]? = some x → ∃ r, atI (rs.map D.ref) (i : Int) = some (.ref r) ∧ S[r]? = some (.lst ((gstarts (i + 1) x.kids).map natD))
theorem Blw.pre {S R : Sto} {t : Gt} {b : Nat} (h : Blw S t b) : Blw (S ++ R) t b := by
  obtain ⟨rs, h1, h2, h3⟩ := h
  refine ⟨rs, get_pre h1, h2, fun i x hx => ?_⟩
  obtain ⟨r, h4, h5⟩ := h3 i x hx
  exact ⟨r, h4, get_pre h5⟩
section
variable {k : Nat} {S : Sto} {Q : D → Sto → Prop} {t : Ht}
end
section
variable {k : Nat} {S : Sto} {Q : D → Sto → Prop} {t : Ht}
end
section
variable {k : Nat}
end
mutual
def Ht.dn {β : Type} (f : Ht → β → Nat → β) : Ht → β → List β
  | .nd n hd ks, v => v :: hdns f ks (f (.nd n hd ks) v)
  | .hole, v => [v]
def hdns {β : Type} (f : Ht → β → Nat → β) : List Ht → (Nat → β) → List β
  | [], _ => []
  | t :: ts, g => t.dn f (g 0) ++ hdns f ts fun k => g (k + 1)
end
section
variable {β : Type} {f : Ht → β → Nat → β}
end
mutual
def WfH (b : Bk) (nm : Str) : Ht → Prop
  | .nd n _ ks => ∃ r, b.rls[n]? = some r ∧ r.nm = nm ∧ WfHs b (r.sl.map (·.nm)) ks
  | .hole => False
def WfHs (b : Bk) : List Str → List Ht → Prop
  | [], [] => True
  | x :: xs, t :: ts => WfH b x t ∧ WfHs b xs ts
  | [], _ :: _ => False
  | _ :: _, [] => False
end
theorem WfHs.len {b : Bk} : ∀ {xs : List Str} {ts : List Ht}, WfHs b xs ts → ts.length = xs.length
  | [], [], _ => rfl
  | _ :: xs, _ :: ts, h => by
    rw [WfHs] at h
    rw [List.length_cons, List.length_cons, WfHs.len h.2]
  | [], _ :: _, h => by simp [WfHs] at h
  | _ :: _, [], h => by simp [WfHs] at h
def rlI (b : Bk) (n : Nat) : Rl := (b.rls[n]?).getD ⟨"", [], [], []⟩
theorem rlI_eq {b : Bk} {n : Nat} {r : Rl} (h : b.rls[n]? = some r) : rlI b n = r := by
  unfold rlI
  rw [h]
  rfl
theorem WfH.top {b : Bk} {nm : Str} {x : Ht} (w : WfH b nm x) : ∃ n hd ks, x = .nd n hd ks ∧ b.rls[n]? = some (rlI b n) ∧ (rlI b n).nm = nm ∧ ks.length = (rlI b n).sl.length := by
  cases x with
  | hole => simp [WfH] at w
  | nd n hd ks =>
    rw [WfH] at w
    obtain ⟨r, h1, h2, h3⟩ := w
    have := h3.len
    rw [List.length_map] at this
    exact ⟨n, hd, ks, rfl, by rw [rlI_eq h1]; exact h1, by rw [rlI_eq h1]; exact h2, by rw [rlI_eq h1]; exact this⟩
def own (b : Bk) (x : Ht) : Nat := (rlI b x.num).ms.length
def cntF (b : Bk) (ts : List Ht) : Nat := ((hpres ts).map (own b)).sum
def spo (b : Bk) (x : Ht) (u : List Nat × Nat) : List Nat := u.1 ++ List.range' u.2 (own b x)
def plI (b : Bk) (x : Ht) (k : Nat) : List Nat := ((rlI b x.num).sl.getD k ⟨"", []⟩).pl
def fL (b : Bk) (x : Ht) (u : List Nat × Nat) (k : Nat) : List Nat × Nat := ((plI b x k).map fun a => (spo b x u).getD a 0, u.2 + own b x + cntF b (x.kids.take k))
def lay (b : Bk) (t : Ht) (v : List Nat × Nat) : List (List Nat × Nat) := t.dn (fL b) v
section
variable {k : Nat} {S : Sto} {Q : D → Sto → Prop} {b : Bk} {t : Ht} {nm : Str}
end
section
variable {k : Nat} {S : Sto} {Q : D → Sto → Prop} {b : Bk} {t : Ht} {nm : Str}
end
def Im (B : Sto) (g : Sto) (r : Nat) (o : Ob) : Prop := B[r]? = some o ∨ ∃ i, r = B.length + 3 + i ∧ g[i]? = some o
theorem Im.app {B g g2 : Sto} {r : Nat} {o : Ob} (h : Im B g r o) : Im B (g ++ g2) r o := by
  rcases h with h | ⟨i, e, h⟩
  · exact .inl h
  · exact .inr ⟨i, e, get_pre h⟩
section
variable {k : Nat} {S : Sto} {Q : D → Sto → Prop} {b : Bk} {t : Ht} {nm : Str}
def tyO (b : Bk) (x : Ht) (u : List Nat × Nat) : List Pt := (rlI b x.num).ts.map fun p => ⟨min ((spo b x u).getD p.one 0) ((spo b x u).getD p.other 0), max ((spo b x u).getD p.one 0) ((spo b x u).getD p.other 0), p.strand⟩
def tysL (b : Bk) (l : List (Ht × (List Nat × Nat))) : List Pt := (l.map fun q => tyO b q.1 q.2).flatten
end
section
variable {k : Nat} {S : Sto} {Q : D → Sto → Prop} {b : Bk} {t : Ht} {nm : Str} {τs : List Nat}
end
section
variable {k : Nat} {S : Sto} {Q : D → Sto → Prop} {t o y : Ht} {p : List Nat}
end
section
variable {k : Nat} {S : Sto} {Q : D → Sto → Prop}
end
section
variable {α : Type} {e : α → D}
end
section
variable {k : Nat} {S : Sto} {Q : D → Sto → Prop} {b : Bk} {t : Tr} {nm : Str} {τs : List Nat}
end
theorem cutS_to (l : List Nat) (n : Nat) : cutS (stS l) none (some (n : Int)) = stS (l.take n) := by
  unfold cutS
  rw [HT.sIx_nat, HT.sIx_none, st_length]
  show stS _ = stS _
  congr 1
  simp [stS]
structure TtOk (l : List Str) : Prop where
  nd : l.Nodup
  ne : ∀ s ∈ l, s.length ≠ 0
  le : ∀ s ∈ l, s.length ≤ 64
  ok : ∀ s ∈ l, PyData.strOk s = true
def Asc (l : List Nat) : Prop := ∀ c ∈ l, c < 1114112
theorem Asc.app {a b : List Nat} (h : Asc a) (g : Asc b) : Asc (a ++ b) := fun c hc => (List.mem_append.mp hc).elim (h c) (g c)
theorem Asc.take {a : List Nat} (h : Asc a) (n : Nat) : Asc (a.take n) := fun c hc => h c (List.mem_of_mem_take hc)
theorem Asc.drop {a : List Nat} (h : Asc a) (n : Nat) : Asc (a.drop n) := fun c hc => h c (List.mem_of_mem_drop hc)
section
variable {k : Nat} {R : Sto} {Q : D → Sto → Prop} {d : DS} {m : Nat}
end
section
variable {k : Nat} {R : Sto} {Q : D → Sto → Prop} {d : DS} {m : Nat}
theorem v_slcX {z : Str} {lo hi : Option Int} {S : Sto} {Q : D → Sto → Prop} (k : z.length ≤ sizeLine) (h : Q (.str (cutS z lo hi)) S) : W (slcD (.str z) lo hi S) Q := by
  simpa [slcD, k] using h
end
section
variable {k : Nat} {R : Sto} {Q : D → Sto → Prop} {d : DS} {m : Nat}
def abcS : Str := "abcdefghijklmnopqrstuvwxyz"
theorem at_abc {i : Int} (h0 : 0 ≤ i) (h1 : i < 26) : ∃ c, Az c ∧ atI abcS.cps.toList i = some c := by
  have e : abcS.cps.toList.length = 26 := by decide
  have key : ∀ c ∈ abcS.cps.toList, Az c := by decide
  refine ⟨abcS.cps.toList[i.toNat]'(by omega), key _ (List.getElem_mem _), ?_⟩
  unfold atI ixN
  rw [if_pos h0, if_pos (by omega)]
  simp only [Option.bind_some]
  rw [List.getElem?_eq_getElem (by omega)]
theorem letter_w (h : ∀ x, Lt x → ∀ d' : DS, Q x (d'.st R)) : W (orc T (k + 2) n__law_letter [.ref 1] (d.st R)) Q := by
  refine orc_w (ρ := [some (.ref 1)]) rfl rfl rfl ?_
  show W (evSs _ b__law_letter _ _) _
  simp only [b__law_letter]
  mul_fits
  refine draw_ (by decide) (by decide) fun u d3 u0 u1 => ?_
  obtain ⟨c, hc, ec⟩ := at_abc u0 u1
  refine v_idxS (le64 (by decide)) ec ?_
  mul_fits
  rw [gc_same (by rfl)]
  exact w_ok (h _ ⟨c, hc, rfl⟩ _)
structure LdOk (b : Bk) : Prop where
  tt : TtOk (b.nms.map (·.1))
  top : (b.top, 0) ∈ b.nms
  ar : ∀ p ∈ b.nms, p.2 ≤ 3
  rl : ∀ r ∈ b.rls, RlIn b.nms r
  lr : ∀ r ∈ b.rls, (∃ x ∈ b.rls, x.nm = r.nm ∧ x.sl = []) ∧ ∃ x ∈ b.rls, x.nm = r.nm ∧ x.sl.map (·.nm) = [r.nm]
  nz : b.nms.length ≤ 64
  r0 : 0 < b.rls.length
  rz : b.rls.length ≤ 400
  lt : (∃ x ∈ b.rls, x.nm = b.top ∧ x.sl = []) ∧ ∃ x ∈ b.rls, x.nm = b.top ∧ x.sl.map (·.nm) = [b.top]
def LR (acc : List Rl) (s : Str) : Prop := (∃ x ∈ acc, x.nm = s ∧ x.sl = []) ∧ ∃ x ∈ acc, x.nm = s ∧ x.sl.map (·.nm) = [s]
theorem LR.mono {acc acc' : List Rl} {s : Str} (h : ∀ x ∈ acc, x ∈ acc') (o : LR acc s) : LR acc' s :=
  ⟨let ⟨x, h1, h2⟩ := o.1; ⟨x, h x h1, h2⟩, let ⟨x, h1, h2⟩ := o.2; ⟨x, h x h1, h2⟩⟩
end
section
variable {k : Nat} {R : Sto} {Q : D → Sto → Prop} {d0 : DS} {m : Nat}
/-- what is known of the rows before the last lines -/
structure LdC (n0 : Str) (nr : List Str) (ps : List (Str × Nat)) (acc : List Rl) : Prop where
  tt : TtOk (n0 :: nr)
  pn : ps.map (·.1) = n0 :: nr
  p0 : (n0, 0) ∈ ps
  pa : ∀ p ∈ ps, p.2 ≤ 3
  pz : ps.length ≤ 64
  rl : ∀ x ∈ acc, RlIn ps x
  lr : ∀ x ∈ acc, LR acc x.nm
  r0 : 0 < acc.length
  rz : acc.length ≤ 400
  lt : LR acc n0
theorem LdC.of {n0 : Str} {nr : List Str} {ps : List (Str × Nat)} {acc acc' : List Rl} (c : LdC n0 nr ps acc) (h : ∀ x, x ∈ acc' ↔ x ∈ acc) (hz : acc'.length ≤ 400) : LdC n0 nr ps acc' :=
  ⟨c.tt, c.pn, c.p0, c.pa, c.pz, fun x hx => c.rl x ((h x).mp hx), fun x hx => (c.lr x ((h x).mp hx)).mono fun y hy => (h y).mpr hy, by
    obtain ⟨y, hy⟩ := List.exists_mem_of_length_pos c.r0
    exact List.length_pos_of_mem ((h y).mpr hy), hz, c.lt.mono fun y hy => (h y).mpr hy⟩
end
section
variable {k : Nat} {R : Sto} {Q : D → Sto → Prop} {d d0 : DS} {m : Nat}
/-- the rows' state in the walks -/
structure LdI (ps : List (Str × Nat)) (bare : Str) (acc : List Rl) : Prop where
  rl : ∀ x ∈ acc, RlIn ps x
  nb : ∀ x ∈ acc, x.nm ≠ bare
theorem LdI.add {ps : List (Str × Nat)} {bare : Str} {acc : List Rl} {x : Rl} (i : LdI ps bare acc) (h1 : RlIn ps x) (h2 : x.nm ≠ bare) : LdI ps bare (acc ++ [x]) := by
  refine ⟨fun y hy => ?_, fun y hy => ?_⟩
  · rcases List.mem_append.mp hy with hy | hy
    · exact i.rl y hy
    · rw [List.mem_singleton.mp hy]; exact h1
  · rcases List.mem_append.mp hy with hy | hy
    · exact i.nb y hy
    · rw [List.mem_singleton.mp hy]; exact h2
end
section
variable {k : Nat} {R : Sto} {Q : D → Sto → Prop} {d d0 : DS} {m : Nat}
end
section
variable {k : Nat} {R : Sto} {Q : D → Sto → Prop} {d d0 : DS} {m : Nat}
end
section
variable {k : Nat} {R : Sto} {Q : D → Sto → Prop} {d d0 : DS} {m : Nat}
end
section
variable {S : Sto} {a b : Nat} {xs ys : List Str}
end
def LpAt (b : Bk) (s : Str) (i : Nat) : Prop := ∃ r, b.rls[i]? = some r ∧ r.nm = s ∧ r.sl.map (·.nm) = [s]
/-- the dict of loops: names and the places of their lists -/
structure LpD (b : Bk) (n : Nat) (St : Sto) (a : Nat) (ks : List (Str × Nat)) : Prop where
  at_ : St[a]? = some (.dic (encK D.ref ks))
  ls : ∀ s j, gS ks s = some j → a < j ∧ ∃ nums : List Nat, St[j]? = some (.lst (nums.map natD)) ∧ 0 < nums.length ∧ nums.length ≤ n ∧ ∀ i ∈ nums, LpAt b s i
  all : ∀ i < n, ∀ s, LpAt b s i → (gS ks s).isSome = true
  len : ks.length ≤ n
theorem LpD.pre {b : Bk} {n : Nat} {St g : Sto} {a : Nat} {ks : List (Str × Nat)} (L : LpD b n St a ks) : LpD b n (St ++ g) a ks :=
  ⟨get_pre L.at_, fun s j h => let ⟨h1, nums, h2, h3⟩ := L.ls s j h; ⟨h1, nums, get_pre h2, h3⟩, L.all, L.len⟩
theorem LpD.st {b : Bk} {n : Nat} {d d' : DS} {X g : Sto} {a : Nat} {ks : List (Str × Nat)} (h2 : 2 ≤ a) (L : LpD b n (d.st X) a ks) : LpD b n (d'.st (X ++ g)) a ks := by
  have key : ∀ (j : Nat) (o : Ob), 2 ≤ j → (d.st X)[j]? = some o → (d'.st (X ++ g))[j]? = some o := fun j o hj e => by
    obtain ⟨i, rfl⟩ : ∃ i, j = i + 2 := ⟨j - 2, by omega⟩
    rw [st_get] at e ⊢
    exact get_pre e
  exact ⟨key _ _ h2 L.at_, fun s j h => let ⟨h1, nums, h3, h4⟩ := L.ls s j h; ⟨h1, nums, key _ _ (by omega) h3, h4⟩, L.all, L.len⟩
theorem LpD.add {b : Bk} {n Z : Nat} {St : Sto} {a : Nat} {ks : List (Str × Nat)} {nm : Str} {nums : List Nat} (L : LpD b n St a ks) (hZ : a < Z) (kZ : St[Z]? = some (.lst ((nums ++ [n]).map natD))) (hl : nums.length ≤ n) (hal : ∀ i ∈ nums, LpAt b nm i) (hn : LpAt b nm n) : LpD b (n + 1) (St.set a (.dic (encK D.ref (pS ks nm Z)))) a (pS ks nm Z) := by
  have ha : a < St.length := (List.getElem?_eq_some_iff.mp L.at_).1
  refine ⟨by rw [List.getElem?_set_self ha], fun s j h => ?_, fun i hi s z => ?_, Nat.le_trans (pS_len _ _ _) (by have := L.len; omega)⟩
  · rw [gS_pS] at h
    split at h
    · rename_i e
      subst e
      cases h
      refine ⟨hZ, nums ++ [n], by rw [List.getElem?_set_ne (Nat.ne_of_lt hZ)]; exact kZ, by simp, by simp; omega, fun i hi => ?_⟩
      rcases List.mem_append.mp hi with hi | hi
      · exact hal i hi
      · rw [List.mem_singleton.mp hi]; exact hn
    · obtain ⟨h1, nums', h2, h3, h4, h5⟩ := L.ls s j h
      exact ⟨h1, nums', by rw [List.getElem?_set_ne (Nat.ne_of_lt h1)]; exact h2, h3, by omega, h5⟩
  · rw [gS_pS]
    split
    · rfl
    · rename_i ne
      rcases Nat.lt_succ_iff_lt_or_eq.mp hi with hi | rfl
      · exact L.all i hi s z
      · obtain ⟨r, h1, h2, _⟩ := hn
        obtain ⟨r', h1', h2', _⟩ := z
        rw [h1] at h1'
        cases h1'
        exact absurd (h2.symm.trans h2') ne
section
variable {k : Nat} {S : Sto} {Q : D → Sto → Prop} {b : Bk}
end
section
variable {k : Nat} {S : Sto} {Q : D → Sto → Prop} {t : Ht} {b : Bk} {nm : Str}
end
/-- rows and names of the builds of the names due -/
def Tp (b : Bk) : List Str → List (Nat × Nat) → List Str → Prop
  | w, [], [] => w = []
  | [], _ :: _, _ => False
  | _, [], _ :: _ => False
  | _ :: _, _ :: _, [] => False
  | s :: w, (n, m) :: rows, s' :: nms => s' = s ∧ ∃ r, b.rls[n]? = some r ∧ r.nm = s ∧ m = r.sl.length ∧ Tp b (r.sl.map (·.nm) ++ w) rows nms
theorem Tp.len {b : Bk} : ∀ {w : List Str} {rows : List (Nat × Nat)} {nms : List Str}, Tp b w rows nms → nms.length = rows.length
  | _, [], [], _ => rfl
  | [], _ :: _, _, h => by simp [Tp] at h
  | _, [], _ :: _, h => by cases ‹List Str› <;> simp [Tp] at h
  | _ :: _, _ :: _, [], h => by simp [Tp] at h
  | s :: w, (n, m) :: rows, s' :: nms, h => by
    rw [Tp] at h
    obtain ⟨_, r, _, _, _, h⟩ := h
    rw [List.length_cons, List.length_cons, Tp.len h]
theorem LpD.set {b : Bk} {n : Nat} {St : Sto} {a p : Nat} {o : Ob} {ks : List (Str × Nat)} (hp : a ≠ p) (hj : ∀ s j, gS ks s = some j → j ≠ p) (L : LpD b n St a ks) : LpD b n (St.set p o) a ks :=
  ⟨by rw [List.getElem?_set_ne (Ne.symm hp)]; exact L.at_, fun s j h => let ⟨h1, nums, h2, h3⟩ := L.ls s j h; ⟨h1, nums, by rw [List.getElem?_set_ne (Ne.symm (hj s j h))]; exact h2, h3⟩, L.all, L.len⟩
theorem LpD.lt {b : Bk} {n : Nat} {St : Sto} {a : Nat} {ks : List (Str × Nat)} (L : LpD b n St a ks) : ∀ s j, gS ks s = some j → j < St.length := fun s j h =>
  let ⟨_, _, h2, _⟩ := L.ls s j h; (List.getElem?_eq_some_iff.mp h2).1
section
variable {k : Nat} {R : Sto} {Q : D → Sto → Prop} {d : DS} {b : Bk} {nm : Str}
theorem LdOk.mem {b : Bk} (o : LdOk b) : ∀ r ∈ b.rls, r.nm ∈ b.nms.map (·.1) ∧ ∀ s ∈ r.sl, s.nm ∈ b.nms.map (·.1) := fun r hr => by
  obtain ⟨a, h1, h2, _⟩ := (o.rl r hr).ex
  refine ⟨List.mem_map.mpr ⟨_, h1, rfl⟩, fun s hs => ?_⟩
  obtain ⟨a', h3, _⟩ := h2 s hs
  exact List.mem_map.mpr ⟨_, h3, rfl⟩
theorem LdOk.ok {b : Bk} (o : LdOk b) : ∀ r ∈ b.rls, PyData.strOk r.nm = true ∧ ∀ s ∈ r.sl, PyData.strOk s.nm = true := fun r hr =>
  ⟨o.tt.ok _ (o.mem r hr).1, fun s hs => o.tt.ok _ ((o.mem r hr).2 s hs)⟩
theorem LdOk.least {b : Bk} (o : LdOk b) (h : LR b.rls nm) : ∃ v, gS (lstB b) nm = some v ∧ v ≤ 1 := by
  obtain ⟨x, h1, h2, h3⟩ := h.1
  obtain ⟨u, u1, u2⟩ := leaf_at (b := b) (s := nm) (by
    unfold leafB
    rw [List.any_eq_true]
    exact ⟨x, h1, by simp [h2, h3]⟩)
  have : 1 ≤ b.nms.length := List.length_pos_of_mem o.top
  obtain ⟨v, v1, v2⟩ := lsts_le b this nm u u1
  exact ⟨v, v1, by omega⟩
theorem Tp.names {b : Bk} : ∀ {rows : List (Nat × Nat)} {w nms : List Str}, Tp b w rows nms → ∀ s ∈ nms, ∃ r ∈ b.rls, r.nm = s
  | [], w, [], h, s, hs => by simp at hs
  | [], w, _ :: _, h, _, _ => by cases w <;> simp [Tp] at h
  | _ :: _, [], _, h, _, _ => by simp [Tp] at h
  | _ :: _, _ :: _, [], h, _, _ => by simp [Tp] at h
  | (n, m) :: rows, s :: w, s' :: nms, h, x, hx => by
    rw [Tp] at h
    obtain ⟨e, r, h1, h2, _, h3⟩ := h
    rcases List.mem_cons.mp hx with rfl | hx
    · exact ⟨r, List.mem_of_getElem? h1, h2.trans e.symm⟩
    · exact h3.names x hx
end
section
variable {k : Nat} {S : Sto} {Q : D → Sto → Prop} {t y : Ht} {p : List Nat}
end
section
variable {k : Nat} {S : Sto} {Q : D → Sto → Prop} {b : Bk}
end
section
variable {k : Nat} {S : Sto} {Q : D → Sto → Prop} {b : Bk}
end
section
variable {k : Nat} {S : Sto} {Q : D → Sto → Prop} {b : Bk}
end
section
variable {k : Nat} {S : Sto} {Q : D → Sto → Prop} {b : Bk}
end
/-- a tree that can be walked and compared -/
structure Hk (u : Ht) : Prop where
  z : u.pre.length ≤ 1200
  kd : ∀ x ∈ u.pre, x.kids.length ≤ 10
  hh : ∀ x ∈ u.pre, ∀ n hd ks, x = .nd n hd ks → hd.length ≤ 5
  dp : ∀ x ∈ u.pre, ∀ n hd ks, x = .nd n hd ks → ∀ d ∈ hd, depD d ≤ 1
  pd : Pd u.d
  ok : okD u.d
theorem Hk.kd3 {u : Ht} (g : Hk u) : ∀ x ∈ u.pre, x.kids.length ≤ 1000 := fun x hx => Nat.le_trans (g.kd x hx) (by decide)
theorem Hk.z3 {u : Ht} (g : Hk u) : u.pre.length ≤ 3000 := Nat.le_trans g.z (by decide)
theorem Hk.z5 {u : Ht} (g : Hk u) : u.pre.length ≤ 5000 := Nat.le_trans g.z (by decide)
theorem ok_pre {u : Ht} (h : okD u.d) : ∀ x ∈ u.pre, okD x.d := fun x hx => by
  obtain ⟨i, hi⟩ := List.getElem?_of_mem hx
  have hl : i < (paths u).length := by rw [paths_len]; exact (List.getElem?_eq_some_iff.mp hi).1
  have hs := paths_sub u i x _ hi (List.getElem?_eq_getElem hl)
  generalize (paths u)[i] = p at hs
  clear hi hl i hx
  induction p generalizing u with
  | nil => cases hs; exact h
  | cons k p ih =>
    obtain ⟨y, e1, e2⟩ := Option.bind_eq_some_iff.mp (show (u.kids[k]?).bind (fun y => y.sub p) = some x from hs)
    obtain ⟨n, hd, ks, rfl, e3⟩ := kid_nd e1
    exact ih ((hok_nd.mp h).2 y (List.mem_of_getElem? e3)) e2
theorem hpres_ge : ∀ (ks : List Ht) (k : Nat) (y : Ht), ks[k]? = some y → y.pre.length ≤ (hpres ks).length
  | [], k, y, h => by simp at h
  | a :: ks, 0, y, h => by
    simp at h
    subst h
    rw [hpres, List.length_append]
    omega
  | a :: ks, k + 1, y, h => by
    have := hpres_ge ks k y (by simpa using h)
    rw [hpres, List.length_append]
    omega
theorem sub_pre_len : ∀ (p : List Nat) (u x : Ht), u.sub p = some x → x.pre.length ≤ u.pre.length
  | [], u, x, h => by cases h; exact Nat.le_refl _
  | k :: p, u, x, h => by
    obtain ⟨y, e1, e2⟩ := Option.bind_eq_some_iff.mp (show (u.kids[k]?).bind (fun y => y.sub p) = some x from h)
    obtain ⟨n, hd, ks, rfl, e3⟩ := kid_nd e1
    have h1 := sub_pre_len p y x e2
    have h3 := hpres_ge ks k y e3
    have e0 : (Ht.nd n hd ks).pre.length = (hpres ks).length + 1 := by rw [Ht.pre, List.length_cons]
    omega
theorem Hk.sub {u x : Ht} {p : List Nat} (g : Hk u) (h : u.sub p = some x) : Hk x := by
  have hx := sub_pre h
  have := sub_pre_len p u x h
  have := g.z
  exact ⟨by omega, fun y hy => g.kd y (hx y hy), fun y hy => g.hh y (hx y hy), fun y hy => g.dp y (hx y hy), pd_sub u p x g.pd h, ok_pre g.ok x (sub_mem h)⟩
mutual
theorem ok_tr : ∀ t : Tr, okD t.d
  | .nd n ps => by
    rw [Tr.d]
    exact ⟨trivial, ok_trs ps, trivial⟩
theorem ok_trs : ∀ ps : List Tr, okDs (Trs.d ps)
  | [] => trivial
  | t :: r => ⟨ok_tr t, ok_trs r⟩
end
theorem Hk.tr {t : Tr} (hz : t.pre.length ≤ 1200) (hk : ∀ x ∈ t.pre, x.kids.length ≤ 10) : Hk t.h := by
  refine ⟨by rw [th_pre, List.length_map]; exact hz, fun x hx => ?_, fun x hx n hd ks e => ?_, fun x hx n hd ks e => ?_, by rw [th_d]; exact pd_tr t, by rw [th_d]; exact ok_tr t⟩
  all_goals (rw [th_pre] at hx; obtain ⟨y, hy, rfl⟩ := List.mem_map.mp hx)
  · rw [th_kids, List.length_map]
    exact hk y hy
  · cases y with
    | nd m ps => rw [th_nd] at e; cases e; simp
  · cases y with
    | nd m ps => rw [th_nd] at e; cases e; simp
section
variable {k : Nat} {S : Sto} {Q : D → Sto → Prop} {b : Bk}
end
section
variable {k : Nat} {S : Sto} {Q : D → Sto → Prop} {b : Bk}
theorem Wfs.zip {b : Bk} : ∀ {xs : List Str} {ts : List Tr}, Wfs b xs ts → ∀ p ∈ xs.zip ts, Wf b p.1 p.2
  | [], _, _, p, hp => by simp at hp
  | x :: xs, [], h, p, hp => by simp at hp
  | x :: xs, t :: ts, h, p, hp => by
    rw [Wfs] at h
    rw [List.zip_cons_cons] at hp
    rcases List.mem_cons.mp hp with rfl | hp
    · exact h.1
    · exact Wfs.zip h.2 p hp
end
section
variable {k : Nat} {S : Sto} {Q : D → Sto → Prop} {b : Bk}
end
theorem cut_drop {l : List D} {m : Nat} : PQ.cutD l (some (m : Int)) none = l.drop m := by
  unfold PQ.cutD
  simp only [HT.sIx]
  rw [if_neg (by omega), Int.toNat_natCast]
  by_cases h : m ≤ l.length
  · rw [Nat.min_eq_left h, List.take_of_length_le (by simp)]
  · rw [Nat.min_eq_right (by omega), Nat.sub_self, List.take_zero, List.drop_of_length_le (by omega)]
section
variable {k : Nat} {R : Sto} {Q : D → Sto → Prop} {d : DS} {b : Bk} {nm : Str}
end
section
variable {k : Nat} {S : Sto} {Q : D → Sto → Prop} {b : Bk}
end
section
variable {k : Nat} {S : Sto} {Q : D → Sto → Prop} {b : Bk}
end
structure Wb where
  ar : Nat
  cs : List Nat
  ts : List Pt
abbrev Wb.spots (w : Wb) : Nat := w.ar + w.cs.length
theorem Wb.sp (w : Wb) : w.spots = w.ar + w.cs.length := rfl
abbrev Wb.d (w : Wb) : D := .tup [.int (w.ar : Nat), .str (stS w.cs), .tup (w.ts.map Pt.d)]
/-- places for a guest -/
structure PlOk (h : Wb) (pl : List Nat) (a : Nat) : Prop where
  len : pl.length = a
  nd : pl.Nodup
  lt : ∀ x ∈ pl, x < h.spots
theorem PlOk.at {h : Wb} {pl : List Nat} {a q : Nat} (o : PlOk h pl a) (hq : q < a) : pl.getD q 0 < h.spots := by
  have hl := o.len
  have e : pl.getD q 0 = pl[q] := by simp [List.getD, hl, hq]
  rw [e]
  exact o.lt _ (List.getElem_mem (by omega))
theorem PlOk.ne {h : Wb} {pl : List Nat} {a q r : Nat} (o : PlOk h pl a) (hq : q < a) (hr : r < a) (hqr : q ≠ r) : pl.getD q 0 ≠ pl.getD r 0 := by
  have hl := o.len
  have e1 : pl.getD q 0 = pl[q] := by simp [List.getD, hl, hq]
  have e2 : pl.getD r 0 = pl[r] := by simp [List.getD, hl, hr]
  rw [e1, e2]
  intro e
  have f1 := List.Nodup.idxOf_getElem o.nd q (by omega)
  have f2 := List.Nodup.idxOf_getElem o.nd r (by omega)
  rw [e, f2] at f1
  exact hqr f1.symm
structure Bij (im inv : Nat → Nat) (ar n : Nat) : Prop where
  j1 : ∀ q, q < ar → im q = q
  j2 : ∀ q, q < ar → inv q = q
  h1 : ∀ q, ar ≤ q → q < ar + n → ar ≤ im q ∧ im q < ar + n ∧ inv (im q) = q
  h2 : ∀ q, ar ≤ q → q < ar + n → ar ≤ inv q ∧ inv q < ar + n ∧ im (inv q) = q
theorem Bij.symm {im inv : Nat → Nat} {ar n : Nat} (b : Bij im inv ar n) : Bij inv im ar n := ⟨b.j2, b.j1, b.h2, b.h1⟩
theorem Bij.lt {im inv : Nat → Nat} {ar n q : Nat} (b : Bij im inv ar n) (h : q < ar + n) : im q < ar + n := by
  by_cases e : q < ar
  · rw [b.j1 q e]
    omega
  · exact (b.h1 q (by omega) h).2.1
section
variable {k : Nat} {S : Sto} {Q : D → Sto → Prop} {w h g : Wb} {im inv : Nat → Nat} {pl : List Nat}
end
theorem stok {cs : List Nat} (h : ∀ c ∈ cs, c < 1114112) : PyData.strOk (stS cs) = true := by
  unfold PyData.strOk stS
  simp
  intro i hi
  exact h _ hi
section
variable {k : Nat} {S : Sto} {Q : D → Sto → Prop} {w h g : Wb} {im inv : Nat → Nat} {pl : List Nat}
end
def TL (b : Bk) (t : Ht) (u : List Nat × Nat) : List Pt := tysL b (t.pre.zip (lay b t u))
section
variable {k : Nat} {S : Sto} {Q : D → Sto → Prop} {b : Bk} {t : Ht} {nm : Str}
end
section
variable {k : Nat} {S : Sto} {Q : D → Sto → Prop}
end
section
variable {k : Nat} {R : Sto} {Q : D → Sto → Prop} {d : DS}
end
section
variable {k : Nat} {R : Sto} {Q : D → Sto → Prop} {d : DS}
end
section
variable {k : Nat} {R : Sto} {Q : D → Sto → Prop} {d : DS}
end
section
variable {k : Nat} {R : Sto} {Q : D → Sto → Prop} {d : DS}
end
/-- what a round keeps -/
structure Rnd (ns : List Str) (f : List Str → List Str) : Prop where
  pre : ∀ l, ∃ x, f l = l ++ x
  nd : ∀ l, l.Nodup → (f l).Nodup
  sub : ∀ l, (∀ s ∈ l, s ∈ ns) → ∀ s ∈ f l, s ∈ ns
theorem Rnd.id {ns : List Str} : Rnd ns fun l => l := ⟨fun l => ⟨[], by simp⟩, fun _ h => h, fun _ h => h⟩
theorem Rnd.comp {ns : List Str} {f g : List Str → List Str} (a : Rnd ns f) (b : Rnd ns g) : Rnd ns fun l => g (f l) :=
  ⟨fun l => by
    obtain ⟨x, hx⟩ := a.pre l
    obtain ⟨y, hy⟩ := b.pre (f l)
    exact ⟨x ++ y, by rw [hy, hx, List.append_assoc]⟩, fun l h => b.nd _ (a.nd l h), fun l h => b.sub _ (a.sub l h)⟩
theorem Rnd.fold {α : Type} {ns : List Str} {f : List Str → α → List Str} : ∀ (xs : List α), (∀ x ∈ xs, Rnd ns fun l => f l x) → Rnd ns fun l => xs.foldl f l
  | [], _ => Rnd.id
  | x :: xs, h => (h x (by simp)).comp (Rnd.fold xs fun y hy => h y (by simp [hy]))
def iter {α : Type} (f : α → α) : Nat → α → α
  | 0, a => a
  | n + 1, a => f (iter f n a)
theorem nodup_len : ∀ {l m : List Str}, l.Nodup → (∀ s ∈ l, s ∈ m) → l.length ≤ m.length
  | [], _, _, _ => Nat.zero_le _
  | x :: l, m, nd, h => by
    rw [List.nodup_cons] at nd
    have hx : x ∈ m := h x (by simp)
    have := nodup_len (m := m.erase x) nd.2 fun s hs => (List.mem_erase_of_ne (fun e => nd.1 (by rw [← e]; exact hs))).mpr (h s (by simp [hs]))
    rw [List.length_erase_of_mem hx] at this
    have := List.length_pos_of_mem hx
    rw [List.length_cons]
    omega
theorem Rnd.all {ns : List Str} {f : List Str → List Str} (r : Rnd ns f) {l0 : List Str} (h0 : l0.Nodup) (hs : ∀ s ∈ l0, s ∈ ns) : ∀ n, (iter f n l0).Nodup ∧ (∀ s ∈ iter f n l0, s ∈ ns) ∧ ∃ x, iter f n l0 = l0 ++ x
  | 0 => ⟨h0, hs, [], by simp [iter]⟩
  | n + 1 => by
    obtain ⟨a, b, x, c⟩ := r.all h0 hs n
    obtain ⟨y, d⟩ := r.pre (iter f n l0)
    exact ⟨r.nd _ a, r.sub _ b, x ++ y, by rw [iter, d, c, List.append_assoc]⟩
/-- as many rounds as there are names: nothing more is found -/
theorem Rnd.fix {ns : List Str} {f : List Str → List Str} (r : Rnd ns f) {l0 : List Str} (h0 : l0.Nodup) (hs : ∀ s ∈ l0, s ∈ ns) : f (iter f ns.length l0) = iter f ns.length l0 := by
  have key : ∀ n, f (iter f n l0) = iter f n l0 ∨ l0.length + n ≤ (iter f n l0).length := by
    intro n
    induction n with
    | zero => exact .inr (Nat.le_refl _)
    | succ n ih =>
      rcases ih with ih | ih
      · left
        rw [iter, ih, ih]
      · obtain ⟨x, hx⟩ := r.pre (iter f n l0)
        cases x with
        | nil =>
          rw [List.append_nil] at hx
          left
          rw [iter, hx, hx]
        | cons y x =>
          right
          rw [iter, hx, List.length_append, List.length_cons]
          omega
  rcases key ns.length with h | h
  · exact h
  · obtain ⟨a, b, _⟩ := r.all h0 hs ns.length
    have h1 := nodup_len (r.nd _ a) (r.sub _ b)
    obtain ⟨x, hx⟩ := r.pre (iter f ns.length l0)
    rw [hx, List.length_append] at h1
    cases x with
    | nil => rw [hx, List.append_nil]
    | cons y x => rw [List.length_cons] at h1; omega
section
variable {k : Nat} {S : Sto} {Q : D → Sto → Prop}
end
section
variable {k : Nat} {S : Sto} {Q : D → Sto → Prop} {b : Bk}
end
section
variable {k : Nat} {S : Sto} {Q : D → Sto → Prop} {b : Bk}
end
mutual
/-- small whole numbers -/
def smD : D → Prop
  | .int i => i.natAbs < 10 ^ 48
  | .tup ds => smDs ds
  | .fix ds => smDs ds
  | _ => True
def smDs : List D → Prop
  | [] => True
  | d :: ds => smD d ∧ smDs ds
end
mutual
def wtD : D → Nat
  | .int _ => 161
  | .str x => x.cps.size
  | .tup ds => wtDs ds
  | .fix ds => wtDs ds
  | _ => 0
def wtDs : List D → Nat
  | [] => 0
  | d :: ds => wtD d + 1 + wtDs ds
end
theorem log_lt {i : Int} (h : i.natAbs < 10 ^ 48) : i.natAbs.log2 < 160 := by
  by_cases c : i.natAbs = 0
  · rw [c]; decide
  · exact (Nat.log2_lt c).mpr (Nat.lt_of_lt_of_le h (by decide))
mutual
theorem toPW_sm : ∀ (d : D) (p : PyData) (f : Nat → Option PyData), okD d → smD d → toPW f d = some p → p.intsShort 49 = true ∧ p.showable = true ∧ p.weight ≤ wtD d
  | .non, p, f, _, _, e => by cases e; exact ⟨rfl, rfl, Nat.le_refl _⟩
  | .bl b, p, f, _, _, e => by cases e; exact ⟨rfl, rfl, Nat.le_refl _⟩
  | .int i, p, f, _, h, e => by
    cases e
    have h : i.natAbs < 10 ^ 48 := h
    have hl := log_lt h
    refine ⟨?_, ?_, ?_⟩
    · rw [PyData.intsShort]
      refine decide_eq_true ?_
      have e := int_text_length_le10 (k := 48) (by decide) h
      show (Str.ofString (toString i)).length ≤ 49
      rw [PySem.ofString_length]
      exact e
    · rw [PyData.showable]
      exact decide_eq_true (by omega)
    · rw [PyData.weight, wtD]
      split <;> omega
  | .str x, p, f, _, _, e => by cases e; exact ⟨rfl, rfl, Nat.le_refl _⟩
  | .tup ds, p, f, ho, hs, e => by
    rw [toPW] at e
    obtain ⟨ps, e1, rfl⟩ := Option.map_eq_some_iff.mp e
    obtain ⟨h1, h2, h3⟩ := toPsW_sm ds ps f ho hs e1
    exact ⟨by rw [PyData.intsShort]; exact h1, by rw [PyData.showable]; exact h2, by rw [PyData.weight, wtD]; exact h3⟩
  | .fix ds, p, f, ho, hs, e => by
    rw [toPW] at e
    obtain ⟨ps, e1, rfl⟩ := Option.map_eq_some_iff.mp e
    obtain ⟨h1, h2, h3⟩ := toPsW_sm ds ps f ho hs e1
    exact ⟨by rw [PyData.intsShort]; exact h1, by rw [PyData.showable]; exact h2, by rw [PyData.weight, wtD]; exact h3⟩
  | .ref _, _, _, h, _, _ => h.elim
theorem toPsW_sm : ∀ (ds : List D) (ps : List PyData) (f : Nat → Option PyData), okDs ds → smDs ds → toPsW f ds = some ps → PyData.intsShortAll 49 ps = true ∧ PyData.showableAll ps = true ∧ PyData.weightAll ps ≤ wtDs ds
  | [], ps, f, _, _, e => by cases e; exact ⟨rfl, rfl, Nat.le_refl _⟩
  | d :: ds, ps, f, ho, hs, e => by
    rw [toPsW] at e
    cases e1 : toPW f d with
    | none => rw [e1] at e; cases e
    | some p =>
      cases e2 : toPsW f ds with
      | none => rw [e1, e2] at e; cases e
      | some qs =>
        rw [e1, e2] at e
        cases e
        obtain ⟨a1, a2, a3⟩ := toPW_sm d p f ho.1 hs.1 e1
        obtain ⟨b1, b2, b3⟩ := toPsW_sm ds qs f ho.2 hs.2 e2
        refine ⟨by rw [PyData.intsShortAll, a1, b1]; rfl, by rw [PyData.showableAll, a2, b2]; rfl, ?_⟩
        rw [PyData.weightAll, wtDs]
        omega
end
/-- a datum that may be shown -/
structure ShD (d : D) : Prop where
  ok : okD d
  sm : smD d
  wt : wtD d ≤ 2 ^ 18
  dp : depD d ≤ 1000
def shD (d : D) : Str := ((toPW (fun _ => none) d).map PyData.shown).getD ""
theorem w_reprD {S : Sto} {d : D} {Q : D → Sto → Prop} (o : ShD d) (h : Q (.str (shD d)) S) : W (fn1D .repr d S) Q := by
  obtain ⟨p, h1, h2, h3⟩ := toPW_ok d o.ok
  obtain ⟨i1, i2, i3⟩ := toPW_sm d p _ o.ok o.sm (h1 fun _ => none)
  have e : shD d = p.shown := by unfold shD; rw [h1]; rfl
  rw [e] at h
  have z := PyData.shown_le 49 (by decide) p (PyData.leavesShort_of_canLay0 49 p h2 i1)
  have hw := o.wt
  have e2 : (2 : Nat) ^ 18 = 262144 := by decide
  exact v_repr (h1 _) i2 (PyData.hasDict_of_canLay p h2) (by rw [sizeLine_eq]; omega) (by rw [h3]; exact o.dp) h
section
variable {k : Nat} {S : Sto} {Q : D → Sto → Prop}
end
def cv (f g : Nat → Nat) : Nat → Nat
  | 0 => f 0 * g 0
  | n + 1 => f 0 * g (n + 1) + cv (fun i => f (i + 1)) g n
theorem cv_congr : ∀ {n : Nat} {f f' g g' : Nat → Nat}, (∀ i, i ≤ n → f i = f' i) → (∀ i, i ≤ n → g i = g' i) → cv f g n = cv f' g' n
  | 0, f, f', g, g', h1, h2 => by rw [cv, cv, h1 0 (by omega), h2 0 (by omega)]
  | n + 1, f, f', g, g', h1, h2 => by
    rw [cv, cv, h1 0 (by omega), h2 (n + 1) (by omega), cv_congr (fun i hi => h1 (i + 1) (by omega)) fun i hi => h2 i (by omega)]
def dl (n : Nat) : Nat := if n = 0 then 1 else 0
/-- a sum -/
def sN : Nat → (Nat → Nat) → Nat
  | 0, _ => 0
  | n + 1, f => sN n f + f n
/-- the number of ways for the slots' names with so many steps in all -/
def RC (f : Str → Nat → Nat) (ss : List Str) : Nat → Nat := ss.foldl (fun a s => cv a (f s)) dl
theorem foldl_cv {f g : Str → Nat → Nat} {n : Nat} (h : ∀ s i, i ≤ n → f s i = g s i) : ∀ (ss : List Str) (a a' : Nat → Nat), (∀ i, i ≤ n → a i = a' i) → ∀ m, m ≤ n → ss.foldl (fun a s => cv a (f s)) a m = ss.foldl (fun a s => cv a (g s)) a' m
  | [], a, a', ha, m, hm => ha m hm
  | s :: ss, a, a', ha, m, hm => foldl_cv h ss _ _ (fun i hi => cv_congr (fun j hj => ha j (by omega)) fun j hj => h s j (by omega)) m hm
theorem RC_congr {f g : Str → Nat → Nat} {n : Nat} (h : ∀ s i, i ≤ n → f s i = g s i) (ss : List Str) : RC f ss n = RC g ss n := foldl_cv h ss dl dl (fun _ _ => rfl) n (Nat.le_refl _)
section
variable (rs : List (Str × List Str))
def tbS (f : Str → Nat → Nat) (n : Nat) (s : Str) : Nat := (rs.map fun r => if r.1 = s then RC f r.2 n else 0).sum
def tb : Nat → Str → Nat → Nat
  | 0 => fun _ _ => 0
  | n + 1 => fun s m => if m = n + 1 then tbS rs (tb n) n s else tb n s m
def Cn (s : Str) (m : Nat) : Nat := tb rs m s m
theorem tb_eq : ∀ {n m : Nat} (s : Str), m ≤ n → tb rs n s m = Cn rs s m
  | 0, m, s, h => by obtain rfl : m = 0 := by omega
                     rfl
  | n + 1, m, s, h => by
    by_cases e : m = n + 1
    · subst e; rfl
    · rw [tb]
      show (if m = n + 1 then _ else _) = _
      rw [if_neg e]
      exact tb_eq s (by omega)
theorem tbS_congr {f g : Str → Nat → Nat} {n : Nat} (h : ∀ s i, i ≤ n → f s i = g s i) (s : Str) : tbS rs f n s = tbS rs g n s := by
  unfold tbS
  congr 1
  refine List.map_congr_left fun r _ => ?_
  rw [RC_congr h]
theorem Cn_succ (s : Str) (n : Nat) : Cn rs s (n + 1) = tbS rs (Cn rs) n s := by
  show (if n + 1 = n + 1 then _ else _) = _
  rw [if_pos rfl]
  exact tbS_congr rs (fun s i hi => tb_eq rs s hi) s
end
/-- the sums with the left index below c -/
def ps (f g : Nat → Nat) (c t : Nat) : Nat := sN c fun i => if i ≤ t then f i * g (t - i) else 0
section
variable {k : Nat} {S : Sto} {Q : D → Sto → Prop}
end
structure Tb (S : Sto) (a : Nat) (ns : List Str) (pa : Str → Nat) (f : Str → List D) : Prop where
  dic : ∃ l : List (Str × Nat), S[a]? = some (.dic (encK D.ref l)) ∧ (∀ s ∈ ns, gS l s = some (pa s)) ∧ l.length ≤ ns.length
  row : ∀ s ∈ ns, S[pa s]? = some (.lst (f s))
  inj : ∀ s ∈ ns, ∀ t ∈ ns, pa s = pa t → s = t
section
variable {S : Sto} {a : Nat} {ns : List Str} {pa : Str → Nat} {f : Str → List D}
theorem Tb.app (h : Tb S a ns pa f) (g : Sto) : Tb (S ++ g) a ns pa f := by
  obtain ⟨l, h1, h2⟩ := h.dic
  exact ⟨⟨l, get_pre h1, h2⟩, fun s hs => get_pre (h.row s hs), h.inj⟩
theorem Tb.other (h : Tb S a ns pa f) {q : Nat} {o : Ob} (h1 : q ≠ a) (h2 : ∀ s ∈ ns, q ≠ pa s) : Tb (S.set q o) a ns pa f := by
  obtain ⟨l, h3, h4⟩ := h.dic
  exact ⟨⟨l, by rw [List.getElem?_set_ne h1]; exact h3, h4⟩, fun s hs => by rw [List.getElem?_set_ne (h2 s hs)]; exact h.row s hs, h.inj⟩
theorem Tb.set (h : Tb S a ns pa f) {s : Str} (hs : s ∈ ns) (x : List D) : Tb (S.set (pa s) (.lst x)) a ns pa fun t => if t = s then x else f t := by
  obtain ⟨l, h3, h4⟩ := h.dic
  refine ⟨⟨l, ?_, h4⟩, fun t ht => ?_, h.inj⟩
  · rw [List.getElem?_set_ne]
    · exact h3
    · intro e
      have := h.row s hs
      rw [e, h3] at this
      cases this
  · by_cases e : t = s
    · subst e
      rw [if_pos rfl]
      have := (List.getElem?_eq_some_iff.mp (h.row t ht)).1
      simp [this]
    · rw [if_neg e, List.getElem?_set_ne fun z => e (h.inj s hs t ht z).symm]
      exact h.row t ht
theorem Tb.congr (h : Tb S a ns pa f) {g : Str → List D} (e : ∀ s ∈ ns, f s = g s) : Tb S a ns pa g :=
  ⟨h.dic, fun s hs => by rw [h.row s hs, e s hs], h.inj⟩
end
/-- a further name -/
theorem Tb.add {S : Sto} {a : Nat} {ns : List Str} {pa : Str → Nat} {f : Str → List D} (h : Tb S a ns pa f) {s : Str} (hs : s ∉ ns) (x : List D) {ks : List (Key × D)} (k : S[a]? = some (.dic ks)) : Tb ((S ++ [Ob.lst x] : Sto).set a (Ob.dic (PQ.pD ks (.inr s) (D.ref S.length)))) a (ns ++ [s]) (fun t => if t = s then S.length else pa t) (fun t => if t = s then x else f t) := by
  obtain ⟨l, h1, h2, h3⟩ := h.dic
  rw [h1] at k
  cases k
  have ha := (List.getElem?_eq_some_iff.mp h1).1
  have lt : ∀ t ∈ ns, pa t < S.length := fun t ht => (List.getElem?_eq_some_iff.mp (h.row t ht)).1
  have ne : ∀ t ∈ ns, a ≠ pa t := fun t ht e => by
    have := h.row t ht
    rw [← e, h1] at this
    cases this
  refine ⟨⟨pS l s S.length, ?_, fun t ht => ?_, ?_⟩, fun t ht => ?_, fun t ht u hu e => ?_⟩
  · rw [pD_enc, List.getElem?_set_self (by rw [List.length_append]; omega)]
  · rw [gS_pS]
    by_cases e : s = t
    · rw [if_pos e, if_pos e.symm]
    · rw [if_neg e, if_neg fun z => e z.symm]
      rcases List.mem_append.mp ht with ht | ht
      · exact h2 t ht
      · simp at ht
        exact absurd ht.symm e
  · have := pS_len s S.length l
    rw [List.length_append]
    simp
    omega
  · by_cases e : t = s
    · rw [if_pos e, if_pos e, List.getElem?_set_ne (by omega), get_end]
    · rw [if_neg e, if_neg e]
      have ht : t ∈ ns := by
        rcases List.mem_append.mp ht with ht | ht
        · exact ht
        · simp at ht
          exact absurd ht e
      rw [List.getElem?_set_ne (ne t ht)]
      exact get_pre (h.row t ht)
  · have q : ∀ z, z ∈ ns ++ [s] → z ≠ s → z ∈ ns := fun z hz e => by
      rcases List.mem_append.mp hz with hz | hz
      · exact hz
      · simp at hz
        exact absurd hz e
    by_cases e1 : t = s
    · by_cases e2 : u = s
      · rw [e1, e2]
      · rw [if_pos e1, if_neg e2] at e
        have := lt u (q u hu e2)
        omega
    · by_cases e2 : u = s
      · rw [if_neg e1, if_pos e2] at e
        have := lt t (q t ht e1)
        omega
      · rw [if_neg e1, if_neg e2] at e
        exact h.inj t (q t ht e1) u (q u hu e2) e
section
variable {k : Nat} {S : Sto} {Q : D → Sto → Prop}
end
abbrev rsB (b : Bk) : List (Str × List Str) := b.rls.map fun r => (r.nm, r.sl.map (·.nm))
section
variable {k : Nat} {S : Sto} {Q : D → Sto → Prop}
end
abbrev prR (r : Rl) : Str × List Str := (r.nm, r.sl.map (·.nm))
/-- what is found behind some rules -/
def Fnd (F : Str → Nat → Nat) (m : Nat) (dn : List Rl) (l : List (Str × Nat)) : Prop := ∀ s, ((∃ r ∈ dn, r.nm = s) → gS l s = some (tbS (dn.map prR) F m s)) ∧ ((∀ r ∈ dn, r.nm ≠ s) → gS l s = none)
section
variable {k : Nat} {S : Sto} {Q : D → Sto → Prop}
end
theorem Fnd.val {b : Bk} {m : Nat} {l : List (Str × Nat)} (h : Fnd (Cn (rsB b)) m b.rls l) {s : Str} {v : Nat} (e : gS l s = some v) : v = Cn (rsB b) s (m + 1) ∧ ∃ r ∈ b.rls, r.nm = s := by
  have q : ∃ r ∈ b.rls, r.nm = s := by
    refine Classical.byContradiction fun z => ?_
    rw [(h s).2 fun r hr e => z ⟨r, hr, e⟩] at e
    cases e
  refine ⟨?_, q⟩
  rw [(h s).1 q] at e
  cases e
  rw [Cn_succ]
section
variable {k : Nat} {S : Sto} {Q : D → Sto → Prop}
end
section
variable {k : Nat} {S : Sto} {Q : D → Sto → Prop}
end
abbrev intsD (r : List Int) : D := .tup (r.map .int)
structure PSp where
  mark : Str
  tag : Int
  worth : Int
  tal : List Int
structure PTi where
  strand : Str
  low : Int
  high : Int
  one : Int
  other : Int
  worth : Int
abbrev PSp.d (s : PSp) : D := .tup [.str s.mark, .int s.tag, .int s.worth, intsD s.tal]
abbrev PTi.d (s : PTi) : D := .tup [.str s.strand, .int s.low, .int s.high, .int s.one, .int s.other, .int s.worth]
abbrev patD (w : D) (tags : Nat) (cap : Int) (fold : D) (sp : List PSp) (ti : List PTi) : D := .tup [w, .int (tags : Nat), .int cap, fold, .tup (sp.map PSp.d), .tup (ti.map PTi.d)]
abbrev pieceD (ar : Nat) (ms : Str) (pt : List Pt) : D := .tup [.int (ar : Nat), .str ms, .tup (pt.map Pt.d)]
def loI (a b : Int) : Int := if b < a then b else a
def hiI (a b : Int) : Int := if b > a then b else a
def tieRow (ti : List PTi) (s : Str) (a b : Int) : Option (Int × Int × Int) := match ti with
  | [] => none
  | t :: ts => if t.strand = s ∧ t.low = loI a b ∧ t.high = hiI a b then (if a ≤ b then some (t.one, t.other, t.worth) else some (t.other, t.one, t.worth)) else tieRow ts s a b
def spotRow (sp : List PSp) (m : Str) (a : Int) : Option (Int × List Int) := match sp with
  | [] => none
  | t :: ts => if t.mark = m ∧ t.tag = a then some (t.worth, t.tal) else spotRow ts m a
def tieD : Option (Int × Int × Int) → D
  | none => .non
  | some (a, b, c) => .tup [.int a, .int b, .int c]
def spotD : Option (Int × List Int) → D
  | none => .non
  | some (a, b) => .tup [.int a, intsD b]
def mkS (ms : Str) (k : Nat) : Str := ⟨#[ms.cps.toList.getD k 0]⟩
def add2 (l : List Int) (p : Pt) (a b : Int) : List Int := (l.set p.one (gI l p.one + a)).set p.other (gI (l.set p.one (gI l p.one + a)) p.other + b)
def tots (ti : List PTi) (tags : List Int) : List Pt → List Int → Option (List Int)
  | [], l => some l
  | p :: ps, l => match tieRow ti p.strand (gI tags p.one) (gI tags p.other) with
    | none => none
    | some (a, b, _) => tots ti tags ps (add2 l p a b)
def tiw (ti : List PTi) (tags : List Int) : List Pt → Int → Int
  | [], w => w
  | p :: ps, w => match tieRow ti p.strand (gI tags p.one) (gI tags p.other) with
    | none => tiw ti tags ps w
    | some (_, _, c) => tiw ti tags ps (w + c)
def spw (sp : List PSp) (ar : Nat) (ms : Str) (tags : List Int) : List Nat → Int → Option Int
  | [], w => some w
  | k :: ks, w => match spotRow sp (mkS ms k) (gI tags (ar + k)) with
    | none => none
    | some (c, _) => spw sp ar ms tags ks (w + c)
section
variable {k : Nat} {S : Sto} {Q : D → Sto → Prop} {w : D} {tg : Nat} {cap : Int} {fold : D} {sp : List PSp} {ti : List PTi}
theorem spot_row_w {m : Str} {a : Int} (h : Q (spotD (spotRow sp m a)) S) : W (orc T (k + 1) n_spot_row [patD w tg cap fold sp ti, .str m, .int a] S) Q := by
  refine orc_w (ρ := [some (patD w tg cap fold sp ti), some (.str m), some (.int a), none, none, none, none]) rfl rfl rfl ?_
  show W (evSs _ b_spot_row _ _) _
  simp only [b_spot_row]
  mul_fits
  refine loopS_r (fun ds ρ S' => ∃ (rest : List PSp) (o3 o4 o5 o6 : Option D), ds = rest.map PSp.d ∧ S' = S ∧ ρ = [some (patD w tg cap fold sp ti), some (.str m), some (.int a), o3, o4, o5, o6] ∧ spotRow rest m a = spotRow sp m a) ?_ ?_ _ _ _ ⟨sp, _, _, _, _, rfl, rfl, rfl, rfl⟩
  · rintro d ds ρ S' ⟨rest, o3, o4, o5, o6, hds, rfl, rfl, hr⟩
    refine ⟨trivial, ?_⟩
    cases rest with
    | nil => exact absurd hds (by simp)
    | cons t rest =>
    rw [List.map_cons, List.cons.injEq] at hds
    obtain ⟨rfl, rfl⟩ := hds
    simp only [b_spot_row_1]
    mul_fits
    rw [spotRow] at hr
    refine w_ifd (fun c => ?_) fun c => ?_
    · mul_fits
      refine w_ifd (fun c2 => ?_) fun c2 => ?_
      · mul_fits
        rw [if_pos ⟨c, c2⟩] at hr
        rw [← hr] at h
        exact h
      · mul_fits
        rw [if_neg (fun z => c2 z.2)] at hr
        exact ⟨rest, _, _, _, _, rfl, rfl, rfl, hr⟩
    · mul_fits
      rw [if_neg (fun z => c z.1)] at hr
      exact ⟨rest, _, _, _, _, rfl, rfl, rfl, hr⟩
  · rintro ρ S' ⟨rest, o3, o4, o5, o6, hds, rfl, rfl, hr⟩
    refine ⟨trivial, ?_⟩
    cases rest with
    | cons k0 ks => exact absurd hds (by simp)
    | nil =>
    mul_fits
    simp only [b_spot_row_2]
    mul_fits
    rw [← hr] at h
    exact h
theorem lspot_row_w {m : Str} {a : Int} (h : Q (spotD (spotRow sp m a)) S) : W (orc T (k + 1) n__law_spot_row [patD w tg cap fold sp ti, .str m, .int a] S) Q := by
  refine orc_w (ρ := [some (patD w tg cap fold sp ti), some (.str m), some (.int a), none, none, none, none]) rfl rfl rfl ?_
  show W (evSs _ b__law_spot_row _ _) _
  simp only [b__law_spot_row]
  mul_fits
  refine loopS_r (fun ds ρ S' => ∃ (rest : List PSp) (o3 o4 o5 o6 : Option D), ds = rest.map PSp.d ∧ S' = S ∧ ρ = [some (patD w tg cap fold sp ti), some (.str m), some (.int a), o3, o4, o5, o6] ∧ spotRow rest m a = spotRow sp m a) ?_ ?_ _ _ _ ⟨sp, _, _, _, _, rfl, rfl, rfl, rfl⟩
  · rintro d ds ρ S' ⟨rest, o3, o4, o5, o6, hds, rfl, rfl, hr⟩
    refine ⟨trivial, ?_⟩
    cases rest with
    | nil => exact absurd hds (by simp)
    | cons t rest =>
    rw [List.map_cons, List.cons.injEq] at hds
    obtain ⟨rfl, rfl⟩ := hds
    simp only [b__law_spot_row_1]
    mul_fits
    rw [spotRow] at hr
    refine w_ifd (fun c => ?_) fun c => ?_
    · mul_fits
      refine w_ifd (fun c2 => ?_) fun c2 => ?_
      · mul_fits
        rw [if_pos ⟨c, c2⟩] at hr
        rw [← hr] at h
        exact h
      · mul_fits
        rw [if_neg (fun z => c2 z.2)] at hr
        exact ⟨rest, _, _, _, _, rfl, rfl, rfl, hr⟩
    · mul_fits
      rw [if_neg (fun z => c z.1)] at hr
      exact ⟨rest, _, _, _, _, rfl, rfl, rfl, hr⟩
  · rintro ρ S' ⟨rest, o3, o4, o5, o6, hds, rfl, rfl, hr⟩
    refine ⟨trivial, ?_⟩
    cases rest with
    | cons k0 ks => exact absurd hds (by simp)
    | nil =>
    mul_fits
    simp only [b__law_spot_row_2]
    mul_fits
    rw [← hr] at h
    exact h
theorem tie_row_w {s : Str} {a b : Int} (h : Q (tieD (tieRow ti s a b)) S) : W (orc T (k + 1) n_tie_row [patD w tg cap fold sp ti, .str s, .int a, .int b] S) Q := by
  refine orc_w (ρ := [some (patD w tg cap fold sp ti), some (.str s), some (.int a), some (.int b), none, none, none]) rfl rfl rfl ?_
  show W (evSs _ b_tie_row _ _) _
  simp only [b_tie_row]
  mul_fits
  refine loopS_r (fun ds ρ S' => ∃ (rest : List PTi) (o6 : Option D), ds = rest.map PTi.d ∧ S' = S ∧ ρ = [some (patD w tg cap fold sp ti), some (.str s), some (.int a), some (.int b), some (.int (loI a b)), some (.int (hiI a b)), o6] ∧ tieRow rest s a b = tieRow ti s a b) ?_ ?_ _ _ _ ⟨ti, _, rfl, rfl, rfl, rfl⟩
  · rintro d ds ρ S' ⟨rest, o6, hds, rfl, rfl, hr⟩
    refine ⟨trivial, ?_⟩
    cases rest with
    | nil => exact absurd hds (by simp)
    | cons t rest =>
    rw [List.map_cons, List.cons.injEq] at hds
    obtain ⟨rfl, rfl⟩ := hds
    simp only [b_tie_row_1]
    mul_fits
    rw [tieRow] at hr
    refine w_ifd (fun c => ?_) fun c => ?_
    · mul_fits
      refine w_ifd (fun c2 => ?_) fun c2 => ?_
      · mul_fits
        refine w_ifd (fun c3 => ?_) fun c3 => ?_
        · rw [if_pos ⟨c, c2, c3⟩] at hr
          mul_fits
          refine w_ifd (fun c4 => ?_) fun c4 => ?_
          · mul_fits
            rw [if_pos c4] at hr
            rw [← hr] at h
            exact h
          · mul_fits
            simp only [b_tie_row_2]
            mul_fits
            rw [if_neg c4] at hr
            rw [← hr] at h
            exact h
        · mul_fits
          rw [if_neg (fun z => c3 z.2.2)] at hr
          exact ⟨rest, _, rfl, rfl, rfl, hr⟩
      · mul_fits
        rw [if_neg (fun z => c2 z.2.1)] at hr
        exact ⟨rest, _, rfl, rfl, rfl, hr⟩
    · mul_fits
      rw [if_neg (fun z => c z.1)] at hr
      exact ⟨rest, _, rfl, rfl, rfl, hr⟩
  · rintro ρ S' ⟨rest, o6, hds, rfl, rfl, hr⟩
    refine ⟨trivial, ?_⟩
    cases rest with
    | cons k0 ks => exact absurd hds (by simp)
    | nil =>
    mul_fits
    simp only [b_tie_row_3]
    mul_fits
    rw [← hr] at h
    exact h
theorem ltie_row_w {s : Str} {a b : Int} (h : Q (tieD (tieRow ti s a b)) S) : W (orc T (k + 1) n__law_tie_row [patD w tg cap fold sp ti, .str s, .int a, .int b] S) Q := by
  refine orc_w (ρ := [some (patD w tg cap fold sp ti), some (.str s), some (.int a), some (.int b), none, none, none, none, none, none]) rfl rfl rfl ?_
  show W (evSs _ b__law_tie_row _ _) _
  simp only [b__law_tie_row]
  mul_fits
  refine loopS_r (fun ds ρ S' => ∃ (rest : List PTi) (o4 o5 o6 o7 o8 o9 : Option D), ds = rest.map PTi.d ∧ S' = S ∧ ρ = [some (patD w tg cap fold sp ti), some (.str s), some (.int a), some (.int b), o4, o5, o6, o7, o8, o9] ∧ tieRow rest s a b = tieRow ti s a b) ?_ ?_ _ _ _ ⟨ti, _, _, _, _, _, _, rfl, rfl, rfl, rfl⟩
  · rintro d ds ρ S' ⟨rest, o4, o5, o6, o7, o8, o9, hds, rfl, rfl, hr⟩
    refine ⟨trivial, ?_⟩
    cases rest with
    | nil => exact absurd hds (by simp)
    | cons t rest =>
    rw [List.map_cons, List.cons.injEq] at hds
    obtain ⟨rfl, rfl⟩ := hds
    simp only [b__law_tie_row_1]
    mul_fits
    rw [tieRow] at hr
    refine w_ifd (fun c => ?_) fun c => ?_
    · mul_fits
      refine w_ifd (fun c2 => ?_) fun c2 => ?_
      · mul_fits
        refine w_ifd (fun c3 => ?_) fun c3 => ?_
        · rw [if_pos ⟨c, c2, c3⟩] at hr
          mul_fits
          refine w_ifd (fun c4 => ?_) fun c4 => ?_
          · mul_fits
            rw [if_pos c4] at hr
            rw [← hr] at h
            exact h
          · mul_fits
            simp only [b__law_tie_row_2]
            mul_fits
            rw [if_neg c4] at hr
            rw [← hr] at h
            exact h
        · mul_fits
          rw [if_neg (fun z => c3 z.2.2)] at hr
          exact ⟨rest, _, _, _, _, _, _, rfl, rfl, rfl, hr⟩
      · mul_fits
        rw [if_neg (fun z => c2 z.2.1)] at hr
        exact ⟨rest, _, _, _, _, _, _, rfl, rfl, rfl, hr⟩
    · mul_fits
      rw [if_neg (fun z => c z.1)] at hr
      exact ⟨rest, _, _, _, _, _, _, rfl, rfl, rfl, hr⟩
  · rintro ρ S' ⟨rest, o4, o5, o6, o7, o8, o9, hds, rfl, rfl, hr⟩
    refine ⟨trivial, ?_⟩
    cases rest with
    | cons k0 ks => exact absurd hds (by simp)
    | nil =>
    mul_fits
    simp only [b__law_tie_row_3]
    mul_fits
    rw [← hr] at h
    exact h
end
section
variable {k : Nat} {S : Sto} {Q : D → Sto → Prop} {w : D} {tg : Nat} {cap : Int} {fold : D} {sp : List PSp} {ti : List PTi} {ar : Nat} {ms : Str} {pt : List Pt} {tags : List Int}
theorem spots_of_w (h6 : ar + ms.length ≤ 64) (h : Q (.int ((ar + ms.length : Nat) : Int)) S) : W (orc T (k + 1) n_spots_of [pieceD ar ms pt] S) Q := by
  refine orc_w (ρ := [some (pieceD ar ms pt)]) rfl rfl rfl ?_
  show W (evSs _ b_spots_of _ _) _
  simp only [b_spots_of]
  have q1 : ms.length ≤ sizeLine := le64 (by omega)
  mul_fits
  rw [← Int.natCast_add]
  exact h
theorem zeros_w {C : Orc} {ρ : En} {n : Nat} {QQ : List D → Sto → Prop} {own : List Nat} {v : Nat} (h : QQ ((List.replicate n (0 : Int)).map D.int) S) : W (loopQ (Itv.still ⟨rgD 0 (n : Int), none⟩) (fun d S2 => may (bindN (.nm v) d (wipeE ρ own) S2) fun ρ' => (evE C (.lit (.int 0)) ρ' S2).bind fun x S3 => .ok (some x) S3) (rgD 0 (n : Int)) S) QQ := by
  refine loopQ_w (fun ds r S' => S' = S ∧ r ++ List.replicate ds.length (.int 0) = (List.replicate n (0 : Int)).map D.int) ?_ ?_ _ _ ⟨rfl, by rw [rgD0]; simp⟩
  · rintro d ds r S' ⟨rfl, hr⟩
    refine ⟨trivial, ?_⟩
    mul_fits
    refine ⟨rfl, ?_⟩
    rw [← hr]
    simp [List.replicate_succ]
  · rintro r S' ⟨rfl, hr⟩
    refine ⟨trivial, ?_⟩
    simp at hr
    rw [hr]
    simpa using h
def totD : Option (List Int) → D
  | none => .non
  | some t => intsD t
theorem totals_of_w (h6 : ar + ms.length ≤ 64) (ht : tags.length = ar + ms.length) (hp : ∀ p ∈ pt, p.one < tags.length ∧ p.other < tags.length)
    (h : Q (totD (tots ti tags pt (List.replicate (ar + ms.length) 0))) S) : W (orc T (k + 2) n_totals_of [patD w tg cap fold sp ti, pieceD ar ms pt, intsD tags] S) Q := by
  refine orc_w (ρ := [some (patD w tg cap fold sp ti), some (pieceD ar ms pt), some (intsD tags), none, none, none, none, none, none]) rfl rfl rfl ?_
  show W (evSs _ b_totals_of _ _) _
  simp only [b_totals_of]
  mul_fits
  refine spots_of_w h6 ?_
  mul_fits
  refine ⟨le64 (by show (rgD 0 _).length ≤ 64; rw [rgD0]; simp; omega), ?_⟩
  refine zeros_w ?_
  mul_fits
  refine loopS_r (fun ds ρ S' => ∃ (rest : List Pt) (l : List Int) (o4 o5 o6 o7 : Option D), ds = rest.map Pt.d ∧ S' = S ++ [.lst (l.map .int)] ∧ ρ = [some (patD w tg cap fold sp ti), some (pieceD ar ms pt), some (intsD tags), some (.ref S.length), o4, o5, o6, o7, none] ∧ l.length = tags.length ∧ (∀ p ∈ rest, p.one < tags.length ∧ p.other < tags.length) ∧ tots ti tags rest l = tots ti tags pt (List.replicate (ar + ms.length) 0)) ?_ ?_ _ _ _ ⟨pt, _, _, _, _, _, rfl, rfl, rfl, by simp [ht], hp, rfl⟩
  · rintro d ds ρ S' ⟨rest, l, o4, o5, o6, o7, hds, rfl, rfl, hl, hp, hr⟩
    refine ⟨trivial, ?_⟩
    cases rest with
    | nil => exact absurd hds (by simp)
    | cons p rest =>
    rw [List.map_cons, List.cons.injEq] at hds
    obtain ⟨rfl, rfl⟩ := hds
    obtain ⟨p1, p2⟩ := hp p (by simp)
    simp only [b_totals_of_1]
    have a1 := at_ints tags p.one p1
    have a2 := at_ints tags p.other p2
    mul_fits
    refine tie_row_w ?_
    mul_fits
    rw [tots] at hr
    rcases e : tieRow ti p.strand (gI tags p.one) (gI tags p.other) with _ | ⟨x, y, z⟩
    · rw [e] at hr
      mul_fits
      rw [gc_app (by simp [below])]
      rw [← hr] at h
      exact w_ok h
    · rw [e] at hr
      rw [show tieD (some (x, y, z)) = .tup [.int x, .int y, .int z] from rfl]
      mul_fits
      simp only [b_totals_of_2]
      have k1 := get_end S (.lst (l.map D.int))
      have k2 := at_ints l p.one (by omega)
      have k3 : ixN (l.map D.int).length (p.one : Int) = some p.one := ix_nat (by simp; omega)
      mul_fits
      rw [set_end, ← List.map_set]
      have k4 := get_end S (.lst ((l.set p.one (gI l p.one + x)).map D.int))
      have k5 := at_ints (l.set p.one (gI l p.one + x)) p.other (by simp; omega)
      have k6 : ixN ((l.set p.one (gI l p.one + x)).map D.int).length (p.other : Int) = some p.other := ix_nat (by simp; omega)
      mul_fits
      rw [set_end, ← List.map_set]
      exact ⟨rest, add2 l p x y, _, _, _, _, rfl, rfl, rfl, by simp [add2, hl], fun q hq => hp q (by simp [hq]), hr⟩
  · rintro ρ S' ⟨rest, l, o4, o5, o6, o7, hds, rfl, rfl, hl, hp, hr⟩
    refine ⟨trivial, ?_⟩
    cases rest with
    | cons k0 ks => exact absurd hds (by simp)
    | nil =>
    mul_fits
    simp only [b_totals_of_3]
    have sq : sqOf (S ++ [.lst (l.map D.int)]) (.val (.ref S.length)) = some (l.map .int) := by simp only [sqOf, lsOf, get_end]
    mul_fits
    rw [gc_app (it_below (it_ints l))]
    rw [← hr] at h
    exact w_ok h
theorem tots_some : ∀ (ps : List Pt) (l t : List Int), tots ti tags ps l = some t → ∀ p ∈ ps, tieRow ti p.strand (gI tags p.one) (gI tags p.other) ≠ none
  | [], _, _, _, _, h => by simp at h
  | p :: ps, l, t, h, q, hq => by
    unfold tots at h
    split at h
    · simp at h
    · rename_i a b c e
      rcases List.mem_cons.mp hq with rfl | hq
      · rw [e]; simp
      · exact tots_some ps _ _ h q hq
end
section
variable {k : Nat} {S : Sto} {Q : D → Sto → Prop} {w : D} {tg : Nat} {cap : Int} {fold : D} {sp : List PSp} {ti : List PTi} {ar : Nat} {ms : Str} {pt : List Pt} {tags : List Int}
theorem lwholes_w {n : Nat} (h6 : n ≤ 64) (ht : tags.length = n) (hp : ∀ p ∈ pt, p.one < tags.length ∧ p.other < tags.length)
    (h0 : tots ti tags pt (List.replicate n 0) = none → Q .non S)
    (h1 : ∀ t, tots ti tags pt (List.replicate n 0) = some t → Q (.tup [.ref S.length, .int (tiw ti tags pt 0)]) (S ++ [.lst (t.map .int)])) : W (orc T (k + 2) n__law_wholes [patD w tg cap fold sp ti, .tup (pt.map Pt.d), .int (n : Int), intsD tags] S) Q := by
  refine orc_w (ρ := [some (patD w tg cap fold sp ti), some (.tup (pt.map Pt.d)), some (.int (n : Int)), some (intsD tags), none, none, none, none, none, none, none]) rfl rfl rfl ?_
  show W (evSs _ b__law_wholes _ _) _
  simp only [b__law_wholes]
  mul_fits
  refine ⟨le64 (by show (rgD 0 _).length ≤ 64; rw [rgD0]; simp; omega), ?_⟩
  refine zeros_w ?_
  mul_fits
  refine loopS_r (fun ds ρ S' => ∃ (rest : List Pt) (l : List Int) (v : Int) (o6 o7 o8 o9 : Option D), ds = rest.map Pt.d ∧ S' = S ++ [.lst (l.map .int)] ∧ ρ = [some (patD w tg cap fold sp ti), some (.tup (pt.map Pt.d)), some (.int (n : Int)), some (intsD tags), some (.ref S.length), some (.int v), o6, o7, o8, o9, none] ∧ l.length = tags.length ∧ (∀ p ∈ rest, p.one < tags.length ∧ p.other < tags.length) ∧ tots ti tags rest l = tots ti tags pt (List.replicate n 0) ∧ tiw ti tags rest v = tiw ti tags pt 0) ?_ ?_ _ _ _ ⟨pt, _, _, _, _, _, _, rfl, rfl, rfl, by simp [ht], hp, rfl, rfl⟩
  · rintro d ds ρ S' ⟨rest, l, v, o6, o7, o8, o9, hds, rfl, rfl, hl, hp, hr, hv⟩
    refine ⟨trivial, ?_⟩
    cases rest with
    | nil => exact absurd hds (by simp)
    | cons p rest =>
    rw [List.map_cons, List.cons.injEq] at hds
    obtain ⟨rfl, rfl⟩ := hds
    obtain ⟨p1, p2⟩ := hp p (by simp)
    simp only [b__law_wholes_1]
    have a1 := at_ints tags p.one p1
    have a2 := at_ints tags p.other p2
    mul_fits
    refine ltie_row_w ?_
    mul_fits
    rw [tots] at hr
    rw [tiw] at hv
    rcases e : tieRow ti p.strand (gI tags p.one) (gI tags p.other) with _ | ⟨x, y, z⟩
    · rw [e] at hr
      mul_fits
      rw [gc_app (by simp [below])]
      exact w_ok (h0 hr.symm)
    · rw [e] at hr hv
      rw [show tieD (some (x, y, z)) = .tup [.int x, .int y, .int z] from rfl]
      mul_fits
      simp only [b__law_wholes_2]
      have k1 := get_end S (.lst (l.map D.int))
      have k2 := at_ints l p.one (by omega)
      have k3 : ixN (l.map D.int).length (p.one : Int) = some p.one := ix_nat (by simp; omega)
      mul_fits
      rw [set_end, ← List.map_set]
      have k4 := get_end S (.lst ((l.set p.one (gI l p.one + x)).map D.int))
      have k5 := at_ints (l.set p.one (gI l p.one + x)) p.other (by simp; omega)
      have k6 : ixN ((l.set p.one (gI l p.one + x)).map D.int).length (p.other : Int) = some p.other := ix_nat (by simp; omega)
      mul_fits
      rw [set_end, ← List.map_set]
      exact ⟨rest, add2 l p x y, v + z, _, _, _, _, rfl, rfl, rfl, by simp [add2, hl], fun q hq => hp q (by simp [hq]), hr, hv⟩
  · rintro ρ S' ⟨rest, l, v, o6, o7, o8, o9, hds, rfl, rfl, hl, hp, hr, hv⟩
    refine ⟨trivial, ?_⟩
    cases rest with
    | cons k0 ks => exact absurd hds (by simp)
    | nil =>
    mul_fits
    simp only [b__law_wholes_3]
    mul_fits
    rw [gc_out (by simp [below, belows])]
    have e : v = tiw ti tags pt 0 := hv
    subst e
    exact w_ok (h1 l hr.symm)
end
section
variable {S : Sto} {a : Nat} {es : List (NestedKey × D)} {x v y : D} {t : NestedKey}
theorem tab_at (k1 : tabOf S (.val (.ref a)) = some es) : S[a]? = some (.dkt es) ∨ (S[a]? = some (.dic []) ∧ es = []) := by
  have k1 : (match S[a]? with
    | some (Ob.dic []) => some []
    | some (Ob.dkt ks) => some ks
    | _ => none) = some es := k1
  cases e : S[a]? with
  | none => rw [e] at k1; cases k1
  | some o =>
    rw [e] at k1
    cases o with
    | lst _ => cases k1
    | frd _ => cases k1
    | dkt ks => cases k1; exact .inl rfl
    | dic l =>
      cases l with
      | nil => cases k1; exact .inr ⟨rfl, rfl⟩
      | cons => cases k1
theorem tab_k {α : Type} {f : Res α} {Q : α → Sto → Prop} (k1 : tabOf S (.val (.ref a)) = some es) (h : W f Q) : W (withK S (.ref a) f) Q := by
  rcases tab_at k1 with k | ⟨k, rfl⟩
  · exact w_withRt k h
  · exact w_withR k h
theorem tab_get {Q : D → Sto → Prop} (k1 : tabOf S (.val (.ref a)) = some es) (k2 : keyT x = some t) (h : Q ((gT es t).getD y) S) : W (dgetD (.ref a) x y S) Q := by
  rcases tab_at k1 with k | ⟨k, rfl⟩
  · exact v_dgetT k k2 h
  · exact v_dgetT0 k k2 h
theorem tab_set {Q : Unit → Sto → Prop} (k1 : tabOf S (.val (.ref a)) = some es) (k2 : keyT x = some t) (k3 : es.length < sizeLine) (h : Q () (S.set a (.dkt (pT es t v)))) : W (setD (.ref a) x v S) Q := by
  rcases tab_at k1 with k | ⟨k, rfl⟩
  · exact v_setT k k2 k3 h
  · exact v_setT0 k k2 h
theorem tab_setd {Q : D → Sto → Prop} (k1 : tabOf S (.val (.ref a)) = some es) (k2 : keyT x = some t) (k3 : es.length < sizeLine) (h : ∀ d, gT es t = some d → Q d S) (h2 : gT es t = none → Q v (S.set a (.dkt (es ++ [(t, v)])))) : W (setdD (.ref a) x v S) Q := by
  rcases tab_at k1 with k | ⟨k, rfl⟩
  · exact v_setdT k k2 k3 h h2
  · exact v_setdT0 k k2 (h2 rfl)
theorem tab_in {ds : List D} (k1 : tabOf S (.val (.ref a)) = some es) (k2 : keyT (.tup ds) = some t) : inD (.tup ds) (.val (.ref a)) S = some (gT es t).isSome := by
  rcases tab_at k1 with k | ⟨k, rfl⟩
  · exact inD_T k k2
  · exact inD_T0 k k2
theorem gT_app {es fs : List (NestedKey × D)} {k : NestedKey} : gT (es ++ fs) k = (gT es k).or (gT fs k) := by
  induction es with
  | nil => rfl
  | cons e es ih =>
    obtain ⟨j, d⟩ := e
    show (if j = k then some d else gT (es ++ fs) k) = (if j = k then some d else gT es k).or _
    split
    · rfl
    · exact ih
theorem gT_map {es : List (NestedKey × D)} {k j : NestedKey} {d : D} : gT (es.map fun e => if e.1 = k then (e.1, d) else e) j = if j = k then (gT es j).map (fun _ => d) else gT es j := by
  induction es with
  | nil => by_cases c : j = k <;> simp [gT, c]
  | cons e es ih =>
    obtain ⟨i, x⟩ := e
    rw [List.map_cons]
    by_cases c : i = k
    · subst c
      rw [if_pos rfl]
      show (if i = j then some d else gT _ j) = if j = i then (if i = j then some x else gT es j).map _ else (if i = j then some x else gT es j)
      by_cases c2 : i = j
      · subst c2; simp
      · rw [if_neg c2, if_neg c2, ih, if_neg (fun z => c2 z.symm)]
    · rw [if_neg c]
      show (if i = j then some x else gT _ j) = if j = k then (if i = j then some x else gT es j).map _ else (if i = j then some x else gT es j)
      by_cases c2 : i = j
      · subst c2; simp [c]
      · rw [if_neg c2, if_neg c2, ih]
theorem gT_pT {es : List (NestedKey × D)} {k j : NestedKey} {d : D} : gT (pT es k d) j = if j = k then some d else gT es j := by
  unfold pT
  split
  · rename_i h
    rw [gT_map]
    split
    · rename_i e
      subst e
      cases e2 : gT es j with
      | none => rw [e2] at h; cases h
      | some x => rfl
    · rfl
  · rename_i h
    rw [gT_app]
    show (gT es j).or (if k = j then some d else none) = _
    by_cases c : j = k
    · subst c
      have : gT es j = none := by simpa using h
      rw [this]; simp
    · rw [if_neg c, if_neg (fun z => c z.symm)]; simp
end
/-! ### k24: tallies -/
def tly (cap : Int) (fold : Str) (t : Int) : Int := if fold = "cap" then loI t cap else t.fmod (cap + 1)
theorem tly_rg {cap : Int} {fold : Str} {t : Int} (hc : 0 ≤ cap) (ht : 0 ≤ t) : 0 ≤ tly cap fold t ∧ tly cap fold t ≤ cap := by
  unfold tly
  split
  · unfold loI; split <;> omega
  · rw [Int.fmod_eq_emod_of_nonneg _ (by omega)]
    have := Int.emod_nonneg t (show cap + 1 ≠ 0 by omega)
    have := Int.emod_lt_of_pos t (show 0 < cap + 1 by omega)
    omega
section
variable {k : Nat} {S : Sto} {Q : D → Sto → Prop} {w g : D} {cap : Int} {fold : Str} {rest : List D}
theorem at_cap : atI (w :: g :: .int cap :: .str fold :: rest) 2 = some (.int cap) := by
  rw [show (2 : Int) = ((2 : Nat) : Int) from rfl, at_nat _ _ (by simp)]
  rfl
theorem at_fold : atI (w :: g :: .int cap :: .str fold :: rest) 3 = some (.str fold) := by
  rw [show (3 : Int) = ((3 : Nat) : Int) from rfl, at_nat _ _ (by simp)]
  rfl
theorem tally_w {t : Int} (hc : 0 ≤ cap) (h : Q (.int (tly cap fold t)) S) : W (orc T (k + 1) n_tally [.tup (w :: g :: .int cap :: .str fold :: rest), .int t] S) Q := by
  refine orc_w (ρ := [some (.tup (w :: g :: .int cap :: .str fold :: rest)), some (.int t)]) rfl rfl rfl ?_
  show W (evSs _ b_tally _ _) _
  simp only [b_tally]
  have a2 : atI (w :: g :: .int cap :: .str fold :: rest) 2 = some (.int cap) := at_cap
  have a3 : atI (w :: g :: .int cap :: .str fold :: rest) 3 = some (.str fold) := at_fold
  mul_fits
  unfold tly at h
  refine w_ifd (fun c => ?_) fun c => ?_
  · mul_fits
    rw [if_pos c] at h
    exact h
  · mul_fits
    simp only [b_tally_1]
    rw [if_neg c] at h
    mul_fits
    exact h
theorem ltally_w {t : Int} (hc : 0 ≤ cap) (h : Q (.int (tly cap fold t)) S) : W (orc T (k + 1) n__law_tally [.tup (w :: g :: .int cap :: .str fold :: rest), .int t] S) Q := by
  refine orc_w (ρ := [some (.tup (w :: g :: .int cap :: .str fold :: rest)), some (.int t)]) rfl rfl rfl ?_
  show W (evSs _ b__law_tally _ _) _
  simp only [b__law_tally]
  have a2 : atI (w :: g :: .int cap :: .str fold :: rest) 2 = some (.int cap) := at_cap
  have a3 : atI (w :: g :: .int cap :: .str fold :: rest) 3 = some (.str fold) := at_fold
  mul_fits
  unfold tly at h
  refine w_ifd (fun c => ?_) fun c => ?_
  · mul_fits
    rw [if_pos c] at h
    exact h
  · mul_fits
    rw [if_neg c] at h
    exact h
theorem tallied_w {l : List Int} (hl : l.length ≤ 64) (hc : 0 ≤ cap) (h : Q (intsD (l.map (tly cap fold))) S) : W (orc T (k + 2) n_tallied [.tup (w :: g :: .int cap :: .str fold :: rest), intsD l] S) Q := by
  refine orc_w (ρ := [some (.tup (w :: g :: .int cap :: .str fold :: rest)), some (intsD l), none]) rfl rfl rfl ?_
  show W (evSs _ b_tallied _ _) _
  simp only [b_tallied]
  mul_fits
  refine ⟨le64 (by simpa using hl), ?_⟩
  refine loopQ_m (enc := D.int) (g := fun t => .int (tly cap fold t)) (I := fun S' => S' = S) l (fun x _ S' e => ?_) (fun S' e => ?_) _ rfl
  · subst e
    refine ⟨trivial, ?_⟩
    mul_fits
    refine tally_w hc ?_
    mul_fits
    exact ⟨rfl, rfl⟩
  · subst e
    refine ⟨trivial, ?_⟩
    mul_fits
    have : (l.map fun t => D.int (tly cap fold t)) = (l.map (tly cap fold)).map D.int := by rw [List.map_map]; rfl
    rw [this]
    exact h
end
section
variable {k : Nat} {S : Sto} {Q : D → Sto → Prop} {w : D} {tg : Nat} {cap : Int} {fold : Str} {sp : List PSp} {ti : List PTi} {ar : Nat} {ms : Str} {pt : List Pt} {tags : List Int}
theorem tots_len : ∀ (ps : List Pt) (l t : List Int), tots ti tags ps l = some t → t.length = l.length
  | [], _, _, h => by cases h; rfl
  | p :: ps, l, t, h => by
    rw [tots] at h
    split at h
    · cases h
    · rw [tots_len ps _ _ h]
      simp [add2]
theorem tallies_of_w (hc : 0 ≤ cap) (h6 : ar + ms.length ≤ 64) (ht : tags.length = ar + ms.length) (hp : ∀ p ∈ pt, p.one < tags.length ∧ p.other < tags.length)
    (h : Q (totD ((tots ti tags pt (List.replicate (ar + ms.length) 0)).map fun t => t.map (tly cap fold))) S) : W (orc T (k + 3) n_tallies_of [patD w tg cap (.str fold) sp ti, pieceD ar ms pt, intsD tags] S) Q := by
  refine orc_w (ρ := [some (patD w tg cap (.str fold) sp ti), some (pieceD ar ms pt), some (intsD tags), none]) rfl rfl rfl ?_
  show W (evSs _ b_tallies_of _ _) _
  simp only [b_tallies_of]
  mul_fits
  refine totals_of_w h6 ht hp ?_
  mul_fits
  rcases e : tots ti tags pt (List.replicate (ar + ms.length) 0) with _ | t
  · rw [e] at h
    mul_fits
    exact h
  · rw [e] at h
    mul_fits
    simp only [b_tallies_of_1]
    mul_fits
    refine tallied_w (by rw [tots_len _ _ _ e]; simpa using h6) hc ?_
    mul_fits
    exact h
end
/-! ### any thing -/
def KnI (S : Sto) (d : D) : Prop := Pd d ∨ ∃ a l, d = .ref a ∧ S[a]? = some (.lst l)
def Kn (S : Sto) (d : D) : Prop := match d with
  | .tup ds => ∀ x ∈ ds, KnI S x
  | .ref _ => KnI S d
  | _ => True
def isI : D → Bool
  | .int _ => true
  | _ => false
def chB (n : Nat) : D → Bool
  | .int i => decide (0 ≤ i ∧ i < (n : Int))
  | _ => false
section
variable {k : Nat} {S : Sto} {Q : D → Sto → Prop}
theorem ty_kn {d : D} (hd : KnI S d) (t : Ty) : ∃ b, tyB t S d = some b := by
  rcases hd with hd | ⟨a, l, rfl, e⟩
  · cases d with
    | ref i => exact absurd hd (by simp [below])
    | _ => exact ⟨_, rfl⟩
  · exact ⟨false, by simp only [tyB, e]⟩
theorem is_numberK {d : D} (hd : KnI S d) (h : Q (.bl (isI d)) S) : W (orc T (k + 1) n_is_number [d] S) Q := by
  refine orc_w (ρ := [some d]) rfl rfl rfl ?_
  show W (evSs _ b_is_number _ _) _
  simp only [b_is_number]
  cases d with
  | ref i =>
    rcases hd with hd | ⟨a, l, e0, e⟩
    · exact absurd hd (by simp [below])
    cases e0
    have e1 : tyB .int S (.ref i) = some false := by simp only [tyB, e]
    mul_fits
    refine w_may e1 ?_
    mul_fits
    exact h
  | _ =>
    mul_fits
    exact h
theorem is_intK {d : D} (hd : KnI S d) (h : Q (.bl (isI d)) S) : W (orc T (k + 1) n__law_is_int [d] S) Q := by
  refine orc_w (ρ := [some d]) rfl rfl rfl ?_
  show W (evSs _ b__law_is_int _ _) _
  simp only [b__law_is_int]
  cases d with
  | ref i =>
    rcases hd with hd | ⟨a, l, e0, e⟩
    · exact absurd hd (by simp [below])
    cases e0
    have e1 : tyB .int S (.ref i) = some false := by simp only [tyB, e]
    mul_fits
    refine w_may e1 ?_
    mul_fits
    exact h
  | _ =>
    mul_fits
    exact h
theorem is_betweenK {d : D} {n : Nat} (hd : KnI S d) (h : Q (.bl (chB n d)) S) : W (orc T (k + 2) n_is_between [d, .int 0, .int ((n : Int) - 1)] S) Q := by
  refine orc_w (ρ := [some d, some (.int 0), some (.int ((n : Int) - 1))]) rfl rfl rfl ?_
  show W (evSs _ b_is_between _ _) _
  simp only [b_is_between]
  mul_fits
  refine is_numberK hd ?_
  cases d with
  | int i =>
    mul_fits
    have e : chB n (.int i) = decide (0 ≤ i ∧ i < (n : Int)) := rfl
    rw [e] at h
    refine w_chnB (fun c => ?_) fun c => ?_
    · mul_fits
      have e2 : decide (i ≤ (n : Int) - 1) = decide (0 ≤ i ∧ i < (n : Int)) := by
        have := of_decide_eq_true c
        exact decide_eq_decide.mpr ⟨fun _ => ⟨by omega, by omega⟩, fun _ => by omega⟩
      rw [e2]
      exact h
    · have := of_decide_eq_false c
      rw [decide_eq_false (fun z => this z.1)] at h
      mul_fits
      exact h
  | _ =>
    mul_fits
    exact h
theorem are_numbersK {ds : List D} {n : Nat} (hd : ∀ x ∈ ds, KnI S x) (h : Q (.bl (ds.all (chB n))) S) : W (orc T (k + 3) n_are_numbers [.tup ds, .int 0, .int ((n : Int) - 1)] S) Q := by
  refine orc_w (ρ := [some (.tup ds), some (.int 0), some (.int ((n : Int) - 1)), none]) rfl rfl rfl ?_
  show W (evSs _ b_are_numbers _ _) _
  simp only [b_are_numbers]
  mul_fits
  simp only [b_are_numbers_1]
  mul_fits
  refine loopS_r (fun es ρ S' => ∃ o3, S' = S ∧ ρ = [some (.tup ds), some (.int 0), some (.int ((n : Int) - 1)), o3] ∧ (∀ x ∈ es, KnI S x) ∧ es.all (chB n) = ds.all (chB n)) ?_ ?_ _ _ _ ⟨_, rfl, rfl, hd, rfl⟩
  · rintro e es ρ S' ⟨o3, rfl, rfl, h1, h2⟩
    refine ⟨trivial, ?_⟩
    simp only [b_are_numbers_2]
    mul_fits
    refine is_betweenK (h1 e (by simp)) ?_
    rw [List.all_cons] at h2
    cases c : chB n e with
    | true =>
      rw [c, Bool.true_and] at h2
      mul_fits
      exact ⟨_, rfl, rfl, fun x hx => h1 x (by simp [hx]), h2⟩
    | false =>
      rw [c, Bool.false_and] at h2
      rw [← h2] at h
      mul_fits
      exact h
  · rintro ρ S' ⟨o3, rfl, rfl, h1, h2⟩
    refine ⟨trivial, ?_⟩
    simp only [b_are_numbers_3]
    mul_fits
    rw [← h2] at h
    exact h
/-- a choice of tags -/
def isCh (tg n : Nat) : D → Bool
  | .tup ds => decide (ds.length = n) && ds.all (chB tg)
  | _ => false
theorem isCh_ex {tg n : Nat} {d : D} (h : isCh tg n d = true) : ∃ tags : List Int, d = intsD tags ∧ tags.length = n ∧ ∀ t ∈ tags, 0 ≤ t ∧ t < (tg : Int) := by
  cases d with
  | tup ds =>
    have h : (decide (ds.length = n) && ds.all (chB tg)) = true := h
    rw [Bool.and_eq_true] at h
    obtain ⟨h1, h2⟩ := h
    have h1 := of_decide_eq_true h1
    have key : ∀ ds : List D, ds.all (chB tg) = true → ∃ tags : List Int, ds = tags.map .int ∧ ∀ t ∈ tags, 0 ≤ t ∧ t < (tg : Int) := by
      intro ds
      induction ds with
      | nil => exact fun _ => ⟨[], rfl, by simp⟩
      | cons e es ih =>
        intro z
        rw [List.all_cons, Bool.and_eq_true] at z
        obtain ⟨r, e1, e2⟩ := ih z.2
        cases e with
        | int i =>
          have := of_decide_eq_true z.1
          exact ⟨i :: r, by rw [e1]; rfl, fun t ht => by
            rcases List.mem_cons.mp ht with rfl | ht
            · exact this
            · exact e2 t ht⟩
        | _ => exact nomatch z.1
    obtain ⟨tags, e1, e2⟩ := key ds h2
    exact ⟨tags, by rw [e1], by rw [← h1, e1, List.length_map], e2⟩
  | _ => cases h
theorem isCh_ints {tg n : Nat} {tags : List Int} (h1 : tags.length = n) (h2 : ∀ t ∈ tags, 0 ≤ t ∧ t < (tg : Int)) : isCh tg n (intsD tags) = true := by
  show (decide ((tags.map D.int).length = n) && (tags.map D.int).all (chB tg)) = true
  rw [Bool.and_eq_true]
  refine ⟨decide_eq_true (by rw [List.length_map]; exact h1), ?_⟩
  rw [List.all_map, List.all_eq_true]
  exact fun t ht => decide_eq_true (h2 t ht)
end
/-! ### lots -/
def spOk (sp : List PSp) (ar : Nat) (ms : Str) (tags tl : List Int) (q : Nat) : Bool := match spotRow sp (mkS ms q) (gI tags (ar + q)) with
  | none => false
  | some (_, l) => decide (gI tl (ar + q) ∈ l)
theorem in_rowI {S : Sto} {l : List Int} {i : Int} : inD (.int i) (.val (intsD l)) S = some (decide (i ∈ l)) := by
  unfold inD
  have h1 : (l.map D.int).all flatD = true := by rw [List.all_map, List.all_eq_true]; exact fun _ _ => rfl
  have h2 : ((l.map D.int).any fun y => eqF y (.int i)) = decide (i ∈ l) := by
    rw [List.any_map, Bool.eq_iff_iff, List.any_eq_true, decide_eq_true_iff]
    constructor
    · rintro ⟨x, hx, e⟩
      have e : (x == i) = true := e
      rw [← eq_of_beq e]
      exact hx
    · intro hx
      exact ⟨i, hx, beq_self_eq_true i⟩
  have e : sqOf S (.val (intsD l)) = some (l.map D.int) := rfl
  rw [e]
  simp only [h1, flatD, Bool.and_self, if_true, h2]
section
variable {k : Nat} {S : Sto} {Q : D → Sto → Prop} {w : D} {tg : Nat} {cap : Int} {fold : Str} {sp : List PSp} {ti : List PTi} {ar : Nat} {ms : Str} {pt : List Pt} {tags : List Int}
/-- what is right of a lot's tags -/
def lotB (ti : List PTi) (sp : List PSp) (cap : Int) (fold : Str) (ar : Nat) (ms : Str) (pt : List Pt) (tags : List Int) : Bool := match tots ti tags pt (List.replicate (ar + ms.length) 0) with
  | none => false
  | some t => (List.range ms.length).all (spOk sp ar ms tags (t.map (tly cap fold)))
theorem is_tupleK {d : D} {n : Nat} (hd : Kn S d) (h : Q (.bl (match d with | .tup ds => decide (ds.length = n) | _ => false)) S) : W (orc T (k + 1) n_is_tuple [d, natD n] S) Q := by
  refine orc_w (ρ := [some d, some (natD n)]) rfl rfl rfl ?_
  show W (evSs _ b_is_tuple _ _) _
  simp only [b_is_tuple]
  cases d with
  | ref i =>
    rcases hd with hd | ⟨a, l, e0, e⟩
    · exact absurd hd (by simp [below])
    cases e0
    have e1 : tyB .tuple S (.ref i) = some false := by simp only [tyB, e]
    mul_fits
    refine w_may e1 ?_
    mul_fits
    exact h
  | tup ds =>
    mul_fits
    rw [show decide ((ds.length : Int) = (n : Int)) = decide (ds.length = n) from decide_eq_decide.mpr ⟨fun z => by omega, fun z => by omega⟩]
    exact h
  | _ =>
    mul_fits
    exact h
end
/-! ### k24: lots judged -/
section
variable {k : Nat} {S : Sto} {Q : D → Sto → Prop} {w : D} {tg : Nat} {cap : Int} {fold : Str} {sp : List PSp} {ti : List PTi} {ar : Nat} {ms : Str} {pt : List Pt} {tags : List Int}
theorem is_lot_no {d : D} (h6 : ar + ms.length ≤ 64) (hd : Kn S d) (hn : isCh tg (ar + ms.length) d = false) (h : Q (.bl false) S) : W (orc T (k + 4) n_is_lot [patD w tg cap (.str fold) sp ti, pieceD ar ms pt, d] S) Q := by
  refine orc_w (ρ := [some (patD w tg cap (.str fold) sp ti), some (pieceD ar ms pt), some d, none, none, none]) rfl rfl rfl ?_
  show W (evSs _ b_is_lot _ _) _
  simp only [b_is_lot]
  mul_fits
  refine spots_of_w h6 ?_
  mul_fits
  refine is_tupleK hd ?_
  cases d with
  | tup ds =>
    by_cases c : ds.length = ar + ms.length
    · simp only [decide_eq_true c]
      mul_fits
      refine are_numbersK hd ?_
      have e : ds.all (chB tg) = false := by
        have hn : (decide (ds.length = ar + ms.length) && ds.all (chB tg)) = false := hn
        rw [decide_eq_true c, Bool.true_and] at hn
        exact hn
      rw [e]
      mul_fits
      exact h
    · simp only [decide_eq_false c]
      mul_fits
      exact h
  | _ =>
    mul_fits
    exact h
theorem mark_at {q : Nat} (hm : ms.cps.toList.length = ms.length) (hq : q < ms.length) : atI ms.cps.toList (q : Int) = some (ms.cps.toList.getD q 0) := by
  unfold atI
  rw [ix_nat (by omega)]
  have : q < ms.cps.toList.length := by omega
  simp at this
  simp [this]
theorem is_lot_yes (hc : 0 ≤ cap) (h6 : ar + ms.length ≤ 64) (hm : ms.cps.toList.length = ms.length) (ht : tags.length = ar + ms.length) (hr : ∀ t ∈ tags, 0 ≤ t ∧ t < (tg : Int)) (hp : ∀ p ∈ pt, p.one < tags.length ∧ p.other < tags.length)
    (h : Q (.bl (lotB ti sp cap fold ar ms pt tags)) S) : W (orc T (k + 4) n_is_lot [patD w tg cap (.str fold) sp ti, pieceD ar ms pt, intsD tags] S) Q := by
  refine orc_w (ρ := [some (patD w tg cap (.str fold) sp ti), some (pieceD ar ms pt), some (intsD tags), none, none, none]) rfl rfl rfl ?_
  show W (evSs _ b_is_lot _ _) _
  simp only [b_is_lot]
  have hK : ∀ x ∈ tags.map D.int, KnI S x := fun x hx => by
    obtain ⟨t, _, rfl⟩ := List.mem_map.mp hx
    exact .inl trivial
  mul_fits
  refine spots_of_w h6 ?_
  mul_fits
  refine is_tupleK (d := intsD tags) hK ?_
  have e1 : decide ((tags.map D.int).length = ar + ms.length) = true := decide_eq_true (by rw [List.length_map]; exact ht)
  simp only [e1]
  mul_fits
  refine are_numbersK hK ?_
  have e2 : (tags.map D.int).all (chB tg) = true := by
    rw [List.all_map, List.all_eq_true]
    exact fun t ht => decide_eq_true (hr t ht)
  rw [e2]
  mul_fits
  simp only [b_is_lot_1]
  mul_fits
  refine tallies_of_w hc h6 ht hp ?_
  unfold lotB at h
  mul_fits
  rcases e : tots ti tags pt (List.replicate (ar + ms.length) 0) with _ | t
  · rw [e] at h
    mul_fits
    exact h
  · rw [e] at h
    have tl : t.length = ar + ms.length := by rw [tots_len _ _ _ e]; simp
    dsimp only at h
    rw [show totD (Option.map (fun t => List.map (tly cap fold) t) (some t)) = intsD (t.map (tly cap fold)) from rfl]
    generalize hTL : t.map (tly cap fold) = TL at h ⊢
    have tl2 : TL.length = ar + ms.length := by rw [← hTL, List.length_map]; exact tl
    mul_fits
    simp only [b_is_lot_2]
    have q1 : ms.length ≤ sizeLine := le64 (by omega)
    mul_fits
    rw [rgD0]
    refine loopS_r (fun ds ρ S' => ∃ (ks : List Nat) (o4 o5 : Option D), ds = ks.map natD ∧ S' = S ∧ ρ = [some (patD w tg cap (.str fold) sp ti), some (pieceD ar ms pt), some (intsD tags), some (intsD TL), o4, o5] ∧ (∀ q ∈ ks, q < ms.length) ∧ ks.all (spOk sp ar ms tags TL) = (List.range ms.length).all (spOk sp ar ms tags TL)) ?_ ?_ _ _ _ ⟨List.range ms.length, _, _, rfl, rfl, rfl, fun q hq => List.mem_range.mp hq, rfl⟩
    · rintro d ds ρ S' ⟨rest, o4, o5, hds, rfl, rfl, hl, hr⟩
      refine ⟨trivial, ?_⟩
      cases rest with
      | nil => exact absurd hds (by simp)
      | cons q rest =>
      rw [List.map_cons, List.cons.injEq] at hds
      obtain ⟨rfl, rfl⟩ := hds
      have q2 := hl q (by simp)
      simp only [b_is_lot_3]
      have a1 := mark_at hm q2
      have a2 : atI (tags.map D.int) ((ar : Int) + (q : Int)) = some (.int (gI tags (ar + q))) := by
        rw [← Int.natCast_add]
        exact at_ints _ _ (by omega)
      have a3 : atI (TL.map D.int) ((ar : Int) + (q : Int)) = some (.int (gI TL (ar + q))) := by
        rw [← Int.natCast_add]
        exact at_ints _ _ (by omega)
      mul_fits
      refine spot_row_w ?_
      mul_fits
      rw [List.all_cons] at hr
      rw [show spOk sp ar ms tags TL q = (match spotRow sp (mkS ms q) (gI tags (ar + q)) with
        | none => false
        | some (_, l) => decide (gI TL (ar + q) ∈ l)) from rfl] at hr
      have em : mkS ms q = ⟨#[ms.cps.toList.getD q 0]⟩ := rfl
      rw [← em]
      rcases e : spotRow sp (mkS ms q) (gI tags (ar + q)) with _ | ⟨x, y⟩
      · rw [e] at hr
        mul_fits
        rw [← hr] at h
        exact h
      · rw [e] at hr
        rw [show spotD (some (x, y)) = .tup [.int x, intsD y] from rfl]
        mul_fits
        refine w_may in_rowI ?_
        mul_fits
        by_cases c : gI TL (ar + q) ∈ y
        · rw [decide_eq_true c]
          dsimp only at hr
          rw [decide_eq_true c, Bool.true_and] at hr
          mul_fits
          exact ⟨rest, _, _, rfl, rfl, rfl, fun q hq => hl q (by simp [hq]), hr⟩
        · rw [decide_eq_false c]
          dsimp only at hr
          rw [decide_eq_false c, Bool.false_and] at hr
          mul_fits
          rw [← hr] at h
          exact h
    · rintro ρ S' ⟨rest, o4, o5, hds, rfl, rfl, hl, hr⟩
      refine ⟨trivial, ?_⟩
      cases rest with
      | cons k0 ks => exact absurd hds (by simp)
      | nil =>
      simp only [b_is_lot_4]
      mul_fits
      rw [← hr] at h
      exact h
/-! ### worths, states -/
theorem tots_ok : ∀ (ps : List Pt) (l t : List Int), tots ti tags ps l = some t → ∀ p ∈ ps, tieRow ti p.strand (gI tags p.one) (gI tags p.other) ≠ none := fun ps l t h => tots_some ps l t h
theorem worth_of_w {v : Int} (h6 : ar + ms.length ≤ 64) (hm : ms.cps.toList.length = ms.length) (ht : tags.length = ar + ms.length) (hp : ∀ p ∈ pt, p.one < tags.length ∧ p.other < tags.length)
    (hok : ∀ p ∈ pt, tieRow ti p.strand (gI tags p.one) (gI tags p.other) ≠ none) (hv : spw sp ar ms tags (List.range ms.length) (tiw ti tags pt 0) = some v)
    (h : Q (.int v) S) : W (orc T (k + 2) n_worth_of [patD w tg cap (.str fold) sp ti, pieceD ar ms pt, intsD tags] S) Q := by
  refine orc_w (ρ := [some (patD w tg cap (.str fold) sp ti), some (pieceD ar ms pt), some (intsD tags), none, none, none, none, none]) rfl rfl rfl ?_
  show W (evSs _ b_worth_of _ _) _
  simp only [b_worth_of]
  mul_fits
  refine loopS_w (fun ds ρ S2 => ∃ (rest : List Pt) (v' : Int) (o6 o7 o8 : Option D), ds = rest.map Pt.d ∧ S2 = S ∧ ρ = [some (patD w tg cap (.str fold) sp ti), some (pieceD ar ms pt), some (intsD tags), some (.int v'), o6, o7, o8, none] ∧ (∀ p ∈ rest, p ∈ pt) ∧ tiw ti tags rest v' = tiw ti tags pt 0) ?_ ?_ _ _ _ ⟨pt, 0, _, _, _, rfl, rfl, rfl, fun _ h => h, rfl⟩
  · rintro d ds ρ S2 ⟨rest, v', o6, o7, o8, hds, rfl, rfl, hpt, hr⟩
    refine ⟨trivial, ?_⟩
    cases rest with
    | nil => exact absurd hds (by simp)
    | cons p rest =>
    rw [List.map_cons, List.cons.injEq] at hds
    obtain ⟨rfl, rfl⟩ := hds
    have pm := hpt p (by simp)
    obtain ⟨p1, p2⟩ := hp p pm
    have a1 := at_ints tags p.one p1
    have a2 := at_ints tags p.other p2
    simp only [b_worth_of_1]
    mul_fits
    refine tie_row_w ?_
    rw [tiw] at hr
    rcases e : tieRow ti p.strand (gI tags p.one) (gI tags p.other) with _ | ⟨x, y, z⟩
    · exact absurd e (hok p pm)
    · rw [e] at hr
      rw [show tieD (some (x, y, z)) = .tup [.int x, .int y, .int z] from rfl]
      mul_fits
      exact ⟨_, .inl rfl, rest, v' + z, _, _, _, rfl, rfl, rfl, fun q hq => hpt q (by simp [hq]), hr⟩
  · rintro ρ S2 ⟨rest, v', o6, o7, o8, hds, rfl, rfl, hpt, hr⟩
    refine ⟨trivial, ?_⟩
    cases rest with
    | cons k0 ks => exact absurd hds (by simp)
    | nil =>
    mul_fits
    simp only [b_worth_of_2]
    have q1 : ms.length ≤ sizeLine := le64 (by omega)
    mul_fits
    rw [rgD0]
    have e0 : v' = tiw ti tags pt 0 := hr
    subst e0
    refine loopS_r (fun ds ρ S' => ∃ (ks : List Nat) (v' : Int) (o9 : Option D), ds = ks.map natD ∧ S' = S2 ∧ ρ = [some (patD w tg cap (.str fold) sp ti), some (pieceD ar ms pt), some (intsD tags), some (.int v'), o6, o7, o8, o9] ∧ (∀ q ∈ ks, q < ms.length) ∧ spw sp ar ms tags ks v' = some v) ?_ ?_ _ _ _ ⟨List.range ms.length, _, _, rfl, rfl, rfl, fun q hq => List.mem_range.mp hq, hv⟩
    · rintro d ds ρ S' ⟨rest, v', o9, hds, rfl, rfl, hl, hr⟩
      refine ⟨trivial, ?_⟩
      cases rest with
      | nil => exact absurd hds (by simp)
      | cons q rest =>
      rw [List.map_cons, List.cons.injEq] at hds
      obtain ⟨rfl, rfl⟩ := hds
      have q2 := hl q (by simp)
      simp only [b_worth_of_3]
      have a1 := mark_at hm q2
      have a2 : atI (tags.map D.int) ((ar : Int) + (q : Int)) = some (.int (gI tags (ar + q))) := by
        rw [← Int.natCast_add]
        exact at_ints _ _ (by omega)
      mul_fits
      refine spot_row_w ?_
      have em : mkS ms q = ⟨#[ms.cps.toList.getD q 0]⟩ := rfl
      rw [← em]
      rw [spw] at hr
      rcases e : spotRow sp (mkS ms q) (gI tags (ar + q)) with _ | ⟨x, y⟩
      · rw [e] at hr
        cases hr
      · rw [e] at hr
        rw [show spotD (some (x, y)) = .tup [.int x, intsD y] from rfl]
        mul_fits
        exact ⟨rest, _, _, rfl, rfl, rfl, fun q hq => hl q (by simp [hq]), hr⟩
    · rintro ρ S' ⟨rest, v', o9, hds, rfl, rfl, hl, hr⟩
      refine ⟨trivial, ?_⟩
      cases rest with
      | cons k0 ks => exact absurd hds (by simp)
      | nil =>
      simp only [b_worth_of_4]
      mul_fits
      have hr : some v' = some v := hr
      cases hr
      exact h
theorem state_of_w {t : List Int} (hc : 0 ≤ cap) (h6 : ar + ms.length ≤ 64) (ht : tags.length = ar + ms.length) (hp : ∀ p ∈ pt, p.one < tags.length ∧ p.other < tags.length) (e : tots ti tags pt (List.replicate (ar + ms.length) 0) = some t)
    (h : Q (.tup [intsD (tags.take ar), intsD ((t.map (tly cap fold)).take ar)]) S) : W (orc T (k + 4) n_state_of [patD w tg cap (.str fold) sp ti, pieceD ar ms pt, intsD tags] S) Q := by
  refine orc_w (ρ := [some (patD w tg cap (.str fold) sp ti), some (pieceD ar ms pt), some (intsD tags)]) rfl rfl rfl ?_
  show W (evSs _ b_state_of _ _) _
  simp only [b_state_of]
  mul_fits
  refine tallies_of_w hc h6 ht hp ?_
  rw [e, show totD (Option.map (fun t => List.map (tly cap fold) t) (some t)) = intsD (t.map (tly cap fold)) from rfl]
  mul_fits
  have e1 : PQ.cutD (tags.map D.int) none (some (ar : Int)) = (tags.take ar).map D.int := by rw [cut_take, List.map_take]
  have e2 : PQ.cutD ((t.map (tly cap fold)).map D.int) none (some (ar : Int)) = ((t.map (tly cap fold)).take ar).map D.int := by rw [cut_take, List.map_take]
  rw [e1, e2]
  exact h
end
/-! ### k24: the law's own reading -/
section
variable {k : Nat} {S : Sto} {Q : D → Sto → Prop} {w : D} {tg : Nat} {cap : Int} {fold : Str} {sp : List PSp} {ti : List PTi} {ar : Nat} {ms : Str} {pt : List Pt} {tags : List Int}
/-- the law's value -/
def valO (ti : List PTi) (sp : List PSp) (cap : Int) (fold : Str) (ar : Nat) (ms : Str) (pt : List Pt) (tags : List Int) : D := match tots ti tags pt (List.replicate (ar + ms.length) 0) with
  | none => .non
  | some t => if lotB ti sp cap fold ar ms pt tags = true then .tup [.tup [intsD (tags.take ar), intsD ((t.map (tly cap fold)).take ar)], .int ((spw sp ar ms tags (List.range ms.length) (tiw ti tags pt 0)).getD 0)] else .non
theorem ended_w {S : Sto} {t : List Int} {v : Int} {A : Nat} (hA : S[A]? = some (.lst (t.map .int))) (hc : 0 ≤ cap) (h6 : ar + ms.length ≤ 64) (hm : ms.cps.toList.length = ms.length) (ht : tags.length = ar + ms.length) (tl : t.length = ar + ms.length)
    (h1 : ∀ v', spw sp ar ms tags (List.range ms.length) v = some v' → (List.range ms.length).all (spOk sp ar ms tags (t.map (tly cap fold))) = true → Q (.tup [.tup [intsD (tags.take ar), intsD ((t.map (tly cap fold)).take ar)], .int v']) S)
    (h0 : (List.range ms.length).all (spOk sp ar ms tags (t.map (tly cap fold))) = false → Q .non S) :
    W (orc T (k + 2) n__law_ended [patD w tg cap (.str fold) sp ti, natD ar, .str ms, intsD tags, .ref A, .int v] S) Q := by
  refine orc_w (ρ := [some (patD w tg cap (.str fold) sp ti), some (natD ar), some (.str ms), some (intsD tags), some (.ref A), some (.int v), none, none, none, none]) rfl rfl rfl ?_
  show W (evSs _ b__law_ended _ _) _
  simp only [b__law_ended]
  mul_fits
  refine ⟨le64 (by simp; omega), ?_⟩
  refine loopQ_m (enc := D.int) (g := fun t => .int (tly cap fold t)) (I := fun S' => S' = S) t (fun x _ S' e => ?_) (fun S' e => ?_) _ rfl
  · subst e
    refine ⟨hA, ?_⟩
    mul_fits
    refine ltally_w hc ?_
    mul_fits
    exact ⟨rfl, rfl⟩
  subst e
  refine ⟨hA, ?_⟩
  have e : (t.map fun t => D.int (tly cap fold t)) = (t.map (tly cap fold)).map D.int := by rw [List.map_map]; rfl
  rw [e]
  generalize hTL : t.map (tly cap fold) = TL at h1 h0 ⊢
  have tl2 : TL.length = ar + ms.length := by rw [← hTL, List.length_map]; exact tl
  have q1 : ms.length ≤ sizeLine := le64 (by omega)
  mul_fits
  rw [rgD0]
  have kE : ∀ S0 : Sto, (S0 ++ [.lst (TL.map D.int)])[S0.length]? = some (.lst (TL.map D.int)) := fun S0 => get_end _ _
  refine loopS_r (fun ds ρ S2 => ∃ (ks : List Nat) (v' : Int) (o7 o8 : Option D), ds = ks.map natD ∧ S2 = S' ++ [.lst (TL.map D.int)] ∧ ρ = [some (patD w tg cap (.str fold) sp ti), some (natD ar), some (.str ms), some (intsD tags), some (.ref A), some (.int v'), some (.ref S'.length), o7, o8, none] ∧ (∀ q ∈ ks, q < ms.length) ∧ ks.all (spOk sp ar ms tags TL) = (List.range ms.length).all (spOk sp ar ms tags TL) ∧ ((ks.all (spOk sp ar ms tags TL) = true) → spw sp ar ms tags ks v' = spw sp ar ms tags (List.range ms.length) v)) ?_ ?_ _ _ _ ⟨List.range ms.length, v, _, _, rfl, rfl, rfl, fun q hq => List.mem_range.mp hq, rfl, fun _ => rfl⟩
  · rintro d ds ρ S2 ⟨rest, v', o7, o8, hds, rfl, rfl, hl, hr, hw⟩
    refine ⟨trivial, ?_⟩
    cases rest with
    | nil => exact absurd hds (by simp)
    | cons q rest =>
    rw [List.map_cons, List.cons.injEq] at hds
    obtain ⟨rfl, rfl⟩ := hds
    have q2 := hl q (by simp)
    simp only [b__law_ended_1]
    have a1 := mark_at hm q2
    have a2 : atI (tags.map D.int) ((ar : Int) + (q : Int)) = some (.int (gI tags (ar + q))) := by
      rw [← Int.natCast_add]
      exact at_ints _ _ (by omega)
    have a3 : atI (TL.map D.int) ((ar : Int) + (q : Int)) = some (.int (gI TL (ar + q))) := by
      rw [← Int.natCast_add]
      exact at_ints _ _ (by omega)
    have k1 := kE S'
    mul_fits
    refine lspot_row_w ?_
    mul_fits
    rw [List.all_cons] at hr hw
    rw [show spOk sp ar ms tags TL q = (match spotRow sp (mkS ms q) (gI tags (ar + q)) with
      | none => false
      | some (_, l) => decide (gI TL (ar + q) ∈ l)) from rfl] at hr hw
    rw [spw] at hw
    have em : mkS ms q = ⟨#[ms.cps.toList.getD q 0]⟩ := rfl
    rw [← em]
    rcases e : spotRow sp (mkS ms q) (gI tags (ar + q)) with _ | ⟨x, y⟩
    · rw [e] at hr
      mul_fits
      rw [gc_app (by simp [below])]
      exact w_ok (h0 hr.symm)
    · rw [e] at hr hw
      rw [show spotD (some (x, y)) = .tup [.int x, intsD y] from rfl]
      mul_fits
      refine w_may in_rowI ?_
      mul_fits
      by_cases c : gI TL (ar + q) ∈ y
      · rw [decide_eq_true c]
        dsimp only at hr hw
        rw [decide_eq_true c, Bool.true_and] at hr hw
        mul_fits
        simp only [b__law_ended_2]
        mul_fits
        exact ⟨rest, _, _, _, rfl, rfl, rfl, fun q hq => hl q (by simp [hq]), hr, hw⟩
      · rw [decide_eq_false c]
        dsimp only at hr
        rw [decide_eq_false c, Bool.false_and] at hr
        mul_fits
        rw [gc_app (by simp [below])]
        exact w_ok (h0 hr.symm)
  · rintro ρ S2 ⟨rest, v', o7, o8, hds, rfl, rfl, hl, hr, hw⟩
    refine ⟨trivial, ?_⟩
    cases rest with
    | cons k0 ks => exact absurd hds (by simp)
    | nil =>
    simp only [b__law_ended_3]
    have k1 := kE S'
    mul_fits
    refine v_tupleR (get_end _ _) ?_
    have e1 : PQ.cutD (tags.map D.int) none (some (ar : Int)) = (tags.take ar).map D.int := by rw [cut_take, List.map_take]
    have e2 : PQ.cutD (TL.map D.int) none (some (ar : Int)) = (TL.take ar).map D.int := by rw [cut_take, List.map_take]
    rw [e1, e2]
    mul_fits
    rw [List.append_assoc, gc_app (it_below (.tup _ fun x hx => by
      rcases List.mem_cons.mp hx with rfl | hx
      · exact .tup _ fun y hy => by
          rcases List.mem_cons.mp hy with rfl | hy
          · exact it_ints _
          · rw [List.mem_singleton.mp hy]; exact it_ints _
      · rw [List.mem_singleton.mp hx]; exact .int _))]
    exact w_ok (h1 v' (hw rfl).symm hr.symm)
theorem value_w (hc : 0 ≤ cap) (h6 : ar + ms.length ≤ 64) (hm : ms.cps.toList.length = ms.length) (ht : tags.length = ar + ms.length) (hp : ∀ p ∈ pt, p.one < tags.length ∧ p.other < tags.length)
    (h1 : ∀ t v, tots ti tags pt (List.replicate (ar + ms.length) 0) = some t → spw sp ar ms tags (List.range ms.length) (tiw ti tags pt 0) = some v → lotB ti sp cap fold ar ms pt tags = true → Q (.tup [.tup [intsD (tags.take ar), intsD ((t.map (tly cap fold)).take ar)], .int v]) S)
    (h0 : lotB ti sp cap fold ar ms pt tags = false → Q .non S) : W (orc T (k + 3) n__law_value [patD w tg cap (.str fold) sp ti, pieceD ar ms pt, intsD tags] S) Q := by
  refine orc_w (ρ := [some (patD w tg cap (.str fold) sp ti), some (pieceD ar ms pt), some (intsD tags), none]) rfl rfl rfl ?_
  show W (evSs _ b__law_value _ _) _
  simp only [b__law_value]
  have q1 : ms.length ≤ sizeLine := le64 (by omega)
  mul_fits
  rw [← Int.natCast_add]
  have hl : ∀ t, tots ti tags pt (List.replicate (ar + ms.length) 0) = some t → lotB ti sp cap fold ar ms pt tags = (List.range ms.length).all (spOk sp ar ms tags (t.map (tly cap fold))) := fun t e => by unfold lotB; rw [e]
  refine lwholes_w h6 ht hp (fun e => ?_) fun t e => ?_
  · have : lotB ti sp cap fold ar ms pt tags = false := by unfold lotB; rw [e]
    mul_fits
    exact h0 this
  · have tl : t.length = ar + ms.length := by rw [tots_len _ _ _ e]; simp
    mul_fits
    simp only [b__law_value_1]
    mul_fits
    refine ended_w (get_end _ _) hc h6 hm ht tl (fun v' ev ea => ?_) fun ea => ?_
    · mul_fits
      rw [gc_app (it_below (.tup _ fun x hx => by
        rcases List.mem_cons.mp hx with rfl | hx
        · exact .tup _ fun y hy => by
            rcases List.mem_cons.mp hy with rfl | hy
            · exact it_ints _
            · rw [List.mem_singleton.mp hy]; exact it_ints _
        · rw [List.mem_singleton.mp hx]; exact .int _))]
      exact w_ok (h1 t v' e ev ((hl t e).trans ea))
    · mul_fits
      rw [gc_app (by simp [below])]
      exact w_ok (h0 ((hl t e).trans ea))
theorem is_choiceK {d : D} (h6 : ar + ms.length ≤ 64) (hd : Kn S d) (h : Q (.bl (isCh tg (ar + ms.length) d)) S) : W (orc T (k + 2) n__law_is_choice [patD w tg cap (.str fold) sp ti, pieceD ar ms pt, d] S) Q := by
  refine orc_w (ρ := [some (patD w tg cap (.str fold) sp ti), some (pieceD ar ms pt), some d, none]) rfl rfl rfl ?_
  show W (evSs _ b__law_is_choice _ _) _
  simp only [b__law_is_choice]
  have q1 : ms.length ≤ sizeLine := le64 (by omega)
  cases d with
  | tup ds =>
    have e : isCh tg (ar + ms.length) (.tup ds) = (decide (ds.length = ar + ms.length) && ds.all (chB tg)) := rfl
    rw [e] at h
    mul_fits
    rw [← Int.natCast_add]
    have ed : decide ((ds.length : Int) = ((ar + ms.length : Nat) : Int)) = decide (ds.length = ar + ms.length) := decide_eq_decide.mpr ⟨fun z => by omega, fun z => by omega⟩
    rw [ed]
    by_cases c' : ds.length = ar + ms.length
    rotate_left
    · rw [decide_eq_false c'] at h ⊢
      mul_fits
      exact h
    · rw [decide_eq_true c']
      rw [decide_eq_true c', Bool.true_and] at h
      mul_fits
      simp only [b__law_is_choice_1]
      mul_fits
      refine ⟨le64 (by show ds.length ≤ 64; omega), ?_⟩
      refine loopQ_w (fun es r S' => S' = S ∧ (∀ x ∈ es, KnI S x) ∧ r ++ es.map (fun d => .bl (chB tg d)) = (ds.map (chB tg)).map D.bl) ?_ ?_ _ _ ⟨rfl, hd, by simp⟩
      · rintro e es r S' ⟨rfl, h1, h2⟩
        refine ⟨trivial, ?_⟩
        mul_fits
        refine is_intK (h1 e (by simp)) ?_
        cases e with
        | int i =>
          mul_fits
          have ec : chB tg (.int i) = decide (0 ≤ i ∧ i < (tg : Int)) := rfl
          rw [List.map_cons, ec] at h2
          refine w_chnB (fun c => ?_) fun c => ?_
          · mul_fits
            have e2 : decide (i < (tg : Int)) = decide (0 ≤ i ∧ i < (tg : Int)) := by
              have := of_decide_eq_true c
              exact decide_eq_decide.mpr ⟨fun _ => ⟨by omega, by omega⟩, fun _ => by omega⟩
            rw [e2]
            refine ⟨rfl, fun x hx => h1 x (by simp [hx]), ?_⟩
            rw [← h2, List.append_assoc]
            rfl
          · have := of_decide_eq_false c
            rw [decide_eq_false (fun z => this z.1)] at h2
            mul_fits
            refine ⟨rfl, fun x hx => h1 x (by simp [hx]), ?_⟩
            rw [← h2, List.append_assoc]
            rfl
        | _ =>
          mul_fits
          refine ⟨rfl, fun x hx => h1 x (by simp [hx]), ?_⟩
          rw [← h2, List.append_assoc]
          rfl
      · rintro r S' ⟨rfl, h1, h2⟩
        refine ⟨trivial, ?_⟩
        rw [List.map_nil, List.append_nil] at h2
        subst h2
        mul_fits
        refine v_all rfl (bools_map _) ?_
        rw [List.all_map]
        mul_fits
        exact h
  | ref i =>
    rcases hd with hd | ⟨a, l, e0, e⟩
    · exact absurd hd (by simp [below])
    cases e0
    have e1 : tyB .tuple S (.ref i) = some false := by simp only [tyB, e]
    mul_fits
    refine w_may e1 ?_
    mul_fits
    exact h
  | _ =>
    mul_fits
    exact h
end
/-! ### k24: program and law agree -/
/-- a thing that may be shown: tuples of small numbers -/
theorem sh_ints {l : List Int} (h1 : l.length ≤ 64) (h2 : ∀ x ∈ l, x.natAbs < 1000) : okDs (l.map D.int) ∧ smDs (l.map D.int) ∧ wtDs (l.map D.int) ≤ l.length * 162 ∧ depDs (l.map D.int) = 0 := by
  induction l with
  | nil => exact ⟨trivial, trivial, Nat.zero_le _, rfl⟩
  | cons x l ih =>
    obtain ⟨i1, i2, i3, i4⟩ := ih (by simp at h1; omega) fun y hy => h2 y (by simp [hy])
    have hx := h2 x (by simp)
    refine ⟨⟨trivial, i1⟩, ⟨?_, i2⟩, ?_, ?_⟩
    · show x.natAbs < 10 ^ 48
      exact Nat.lt_of_lt_of_le hx (by decide)
    · show 161 + 1 + wtDs (l.map D.int) ≤ _
      rw [List.length_cons]
      omega
    · show max 0 (depDs (l.map D.int)) = 0
      rw [i4]
      rfl
theorem str_len (ms : Str) : ms.cps.toList.length = ms.length := by
  show _ = ms.cps.size
  simp
structure Wok (tg : Nat) (cap : Int) (ti : List PTi) (ar : Nat) (ms : Str) (pt : List Pt) : Prop where
  c0 : 0 ≤ cap
  c1 : cap ≤ 100
  t1 : tg ≤ 100
  h6 : ar + ms.length ≤ 64
  pr : ∀ p ∈ pt, p.one < ar + ms.length ∧ p.other < ar + ms.length
  tr : ∀ t ∈ ti, 0 ≤ t.one ∧ 0 ≤ t.other
theorem tieRow_mem {ti : List PTi} {s : Str} {a b : Int} {x y z : Int} (h : tieRow ti s a b = some (x, y, z)) : ∃ t ∈ ti, (x = t.one ∧ y = t.other) ∨ (x = t.other ∧ y = t.one) := by
  induction ti with
  | nil => cases h
  | cons t ts ih =>
    rw [tieRow] at h
    split at h
    · split at h
      · cases h
        exact ⟨t, by simp, .inl ⟨rfl, rfl⟩⟩
      · cases h
        exact ⟨t, by simp, .inr ⟨rfl, rfl⟩⟩
    · obtain ⟨t', h1, h2⟩ := ih h
      exact ⟨t', by simp [h1], h2⟩
theorem gI_nn {l : List Int} (h : ∀ x ∈ l, 0 ≤ x) (i : Nat) : 0 ≤ gI l i := by
  unfold gI
  by_cases c : i < l.length
  · rw [List.getD_eq_getElem?_getD, List.getElem?_eq_getElem c]
    exact h _ (List.getElem_mem c)
  · rw [List.getD_eq_getElem?_getD, List.getElem?_eq_none (by omega)]
    exact Int.le_refl _
theorem tots_nn {ti : List PTi} {tags : List Int} (tr : ∀ t ∈ ti, 0 ≤ t.one ∧ 0 ≤ t.other) : ∀ (ps : List Pt) (l t : List Int), tots ti tags ps l = some t → (∀ x ∈ l, 0 ≤ x) → ∀ x ∈ t, 0 ≤ x
  | [], _, _, h, k => by cases h; exact k
  | p :: ps, l, t, h, k => by
    rw [tots] at h
    split at h
    · cases h
    · rename_i a b c e
      obtain ⟨r, hr, e2⟩ := tieRow_mem e
      have hab : 0 ≤ a ∧ 0 ≤ b := by
        have := tr r hr
        rcases e2 with ⟨rfl, rfl⟩ | ⟨rfl, rfl⟩ <;> omega
      refine tots_nn tr ps _ t h fun x hx => ?_
      unfold add2 at hx
      have h1 : ∀ y ∈ l.set p.one (gI l p.one + a), 0 ≤ y := fun y hy => by
        rcases List.mem_or_eq_of_mem_set hy with hy | rfl
        · exact k y hy
        · have := gI_nn k p.one; omega
      rcases List.mem_or_eq_of_mem_set hx with hx | rfl
      · exact h1 x hx
      · have := gI_nn h1 p.other; omega
theorem sh_one {l : List Int} (h1 : l.length ≤ 64) (h2 : ∀ x ∈ l, x.natAbs < 1000) : ShD (intsD l) := by
  obtain ⟨a, b, c, e⟩ := sh_ints h1 h2
  refine ⟨a, b, ?_, ?_⟩
  · show wtDs (l.map D.int) ≤ 2 ^ 18
    have : (2 : Nat) ^ 18 = 262144 := by decide
    omega
  · show depDs (l.map D.int) + 1 ≤ 1000
    rw [e]
    decide
theorem sh_two {l m : List Int} (h1 : l.length ≤ 64) (h2 : ∀ x ∈ l, x.natAbs < 1000) (h3 : m.length ≤ 64) (h4 : ∀ x ∈ m, x.natAbs < 1000) : ShD (.tup [intsD l, intsD m]) := by
  obtain ⟨a, b, c, e⟩ := sh_ints h1 h2
  obtain ⟨a', b', c', e'⟩ := sh_ints h3 h4
  refine ⟨⟨a, a', trivial⟩, ⟨b, b', trivial⟩, ?_, ?_⟩
  · show wtDs (l.map D.int) + 1 + (wtDs (m.map D.int) + 1 + 0) ≤ 2 ^ 18
    have : (2 : Nat) ^ 18 = 262144 := by decide
    omega
  · show max (depDs (l.map D.int) + 1) (max (depDs (m.map D.int) + 1) 0) + 1 ≤ 1000
    rw [e, e']
    decide
section
variable {k : Nat} {S : Sto} {Q : D → Sto → Prop} {w : D} {tg : Nat} {cap : Int} {fold : Str} {sp : List PSp} {ti : List PTi} {ar : Nat} {ms : Str} {pt : List Pt} {tags : List Int}
theorem says_w {a b : Bool} (h : Q (.bl (decide (a = b))) S) : W (orc T (k + 1) n__law_says [.bl a, .bl b] S) Q := by
  refine orc_w (ρ := [some (.bl a), some (.bl b)]) rfl rfl rfl ?_
  show W (evSs _ b__law_says _ _) _
  simp only [b__law_says]
  mul_fits
  exact h
theorem agrees_no {d : D} (o : Wok tg cap ti ar ms pt) (hd : Kn S d) (hn : isCh tg (ar + ms.length) d = false) (h : Q (.bl true) S) : W (orc T (k + 5) n__law_agrees [patD w tg cap (.str fold) sp ti, pieceD ar ms pt, d] S) Q := by
  refine orc_w (ρ := [some (patD w tg cap (.str fold) sp ti), some (pieceD ar ms pt), some d, none, none, none, none, none, none]) rfl rfl rfl ?_
  show W (evSs _ b__law_agrees _ _) _
  simp only [b__law_agrees]
  mul_fits
  refine is_choiceK o.h6 hd ?_
  rw [hn]
  mul_fits
  refine is_lot_no o.h6 hd hn ?_
  mul_fits
  refine says_w ?_
  mul_fits
  simp only [b__law_agrees_1]
  mul_fits
  exact h
theorem agrees_yes (o : Wok tg cap ti ar ms pt) (ht : tags.length = ar + ms.length) (hr : ∀ t ∈ tags, 0 ≤ t ∧ t < (tg : Int)) (h : Q (.bl true) S) : W (orc T (k + 5) n__law_agrees [patD w tg cap (.str fold) sp ti, pieceD ar ms pt, intsD tags] S) Q := by
  have hm := str_len ms
  have hp : ∀ p ∈ pt, p.one < tags.length ∧ p.other < tags.length := fun p hp => by rw [ht]; exact o.pr p hp
  have h6 := o.h6
  have hc := o.c0
  have hK : Kn S (intsD tags) := fun x hx => by
    obtain ⟨t, _, rfl⟩ := List.mem_map.mp hx
    exact .inl trivial
  refine orc_w (ρ := [some (patD w tg cap (.str fold) sp ti), some (pieceD ar ms pt), some (intsD tags), none, none, none, none, none, none]) rfl rfl rfl ?_
  show W (evSs _ b__law_agrees _ _) _
  simp only [b__law_agrees]
  mul_fits
  refine is_choiceK h6 hK ?_
  rw [isCh_ints ht hr]
  mul_fits
  have tl : ∀ t, tots ti tags pt (List.replicate (ar + ms.length) 0) = some t → t.length = ar + ms.length := fun t e => by rw [tots_len _ _ _ e]; simp
  have sm : ∀ t, tots ti tags pt (List.replicate (ar + ms.length) 0) = some t → ∀ x ∈ t.map (tly cap fold), x.natAbs < 1000 := fun t e x hx => by
    obtain ⟨y, hy, rfl⟩ := List.mem_map.mp hx
    have := tly_rg (fold := fold) hc (tots_nn o.tr _ _ _ e (by simp) y hy)
    have := o.c1
    omega
  have st : ∀ x ∈ tags, x.natAbs < 1000 := fun x hx => by
    have := hr x hx
    have := o.t1
    omega
  refine value_w hc h6 hm ht hp (fun t v e ev el => ?_) fun el => ?_
  · mul_fits
    refine is_lot_yes hc h6 hm ht hr hp ?_
    rw [el]
    mul_fits
    refine says_w ?_
    mul_fits
    simp only [b__law_agrees_1]
    mul_fits
    simp only [b__law_agrees_2]
    mul_fits
    rw [List.length_map, ht]
    have EE := e
    refine lwholes_w h6 ht hp (fun e2 => ?_) fun t2 e2 => ?_
    · rw [e] at e2; cases e2
    rw [e] at e2
    cases e2
    have tl1 := tl t e
    mul_fits
    have kk := get_end S (Ob.lst (t.map D.int))
    mul_fits
    refine ⟨le64 (by simp; omega), ?_⟩
    refine loopQ_m (enc := D.int) (g := fun t => .int (tly cap fold t)) (I := fun S' => S' = S ++ [.lst (t.map .int)]) t (fun x _ S' e => ?_) (fun S' e => ?_) _ rfl
    · subst e
      refine ⟨get_end _ _, ?_⟩
      mul_fits
      refine ltally_w hc ?_
      mul_fits
      exact ⟨rfl, rfl⟩
    subst e
    refine ⟨get_end _ _, ?_⟩
    have e5 : (t.map fun t => D.int (tly cap fold t)) = (t.map (tly cap fold)).map D.int := by rw [List.map_map]; rfl
    rw [e5]
    mul_fits
    refine tallies_of_w hc h6 ht hp ?_
    rw [EE, show totD (Option.map (fun t => List.map (tly cap fold) t) (some t)) = intsD (t.map (tly cap fold)) from rfl]
    have sh1 : ShD (intsD (t.map (tly cap fold))) := sh_one (by rw [List.length_map]; omega) (sm t EE)
    mul_fits
    refine w_reprD sh1 ?_
    mul_fits
    refine w_reprD sh1 ?_
    mul_fits
    simp only [b__law_agrees_3]
    mul_fits
    simp only [b__law_agrees_4]
    mul_fits
    refine worth_of_w h6 hm ht hp (tots_some _ _ _ EE) ev ?_
    mul_fits
    refine is_int_w ?_
    mul_fits
    rw [decide_eq_true rfl]
    mul_fits
    refine state_of_w hc h6 ht hp EE ?_
    have sh2 : ShD (.tup [intsD (tags.take ar), intsD ((t.map (tly cap fold)).take ar)]) := sh_two (by rw [List.length_take]; omega) (fun x hx => st x (List.mem_of_mem_take hx)) (by rw [List.length_take, List.length_map]; omega) (fun x hx => sm t EE x (List.mem_of_mem_take hx))
    mul_fits
    refine w_reprD sh2 ?_
    mul_fits
    refine w_reprD sh2 ?_
    mul_fits
    rw [decide_eq_true rfl]
    mul_fits
    rw [gc_app (by simp [below])]
    exact w_ok h
  · mul_fits
    refine is_lot_yes hc h6 hm ht hr hp ?_
    rw [el]
    mul_fits
    refine says_w ?_
    mul_fits
    simp only [b__law_agrees_1]
    mul_fits
    simp only [b__law_agrees_2]
    mul_fits
    rcases EE : tots ti tags pt (List.replicate (ar + ms.length) 0) with _ | t
    · rw [List.length_map, ht]
      refine lwholes_w h6 ht hp (fun e2 => ?_) fun t2 e2 => ?_
      rotate_left
      · rw [EE] at e2; cases e2
      mul_fits
      refine tallies_of_w hc h6 ht hp ?_
      rw [EE, show totD (Option.map (fun t => List.map (tly cap fold) t) none) = .non from rfl]
      have sh1 : ShD .non := ⟨trivial, trivial, by decide, by decide⟩
      mul_fits
      refine w_reprD sh1 ?_
      mul_fits
      refine w_reprD sh1 ?_
      mul_fits
      simp only [b__law_agrees_3]
      mul_fits
      exact h
    · have e := EE
      rw [List.length_map, ht]
      refine lwholes_w h6 ht hp (fun e2 => ?_) fun t2 e2 => ?_
      · rw [e] at e2; cases e2
      rw [e] at e2
      cases e2
      have tl1 := tl t e
      mul_fits
      have kk := get_end S (Ob.lst (t.map D.int))
      mul_fits
      refine ⟨le64 (by simp; omega), ?_⟩
      refine loopQ_m (enc := D.int) (g := fun t => .int (tly cap fold t)) (I := fun S' => S' = S ++ [.lst (t.map .int)]) t (fun x _ S' e => ?_) (fun S' e => ?_) _ rfl
      · subst e
        refine ⟨get_end _ _, ?_⟩
        mul_fits
        refine ltally_w hc ?_
        mul_fits
        exact ⟨rfl, rfl⟩
      subst e
      refine ⟨get_end _ _, ?_⟩
      have e5 : (t.map fun t => D.int (tly cap fold t)) = (t.map (tly cap fold)).map D.int := by rw [List.map_map]; rfl
      rw [e5]
      mul_fits
      refine tallies_of_w hc h6 ht hp ?_
      rw [EE, show totD (Option.map (fun t => List.map (tly cap fold) t) (some t)) = intsD (t.map (tly cap fold)) from rfl]
      have sh1 : ShD (intsD (t.map (tly cap fold))) := sh_one (by rw [List.length_map]; omega) (sm t EE)
      mul_fits
      refine w_reprD sh1 ?_
      mul_fits
      refine w_reprD sh1 ?_
      mul_fits
      simp only [b__law_agrees_3]
      mul_fits
      rw [gc_app (by simp [below])]
      exact w_ok h
end
/-! ### k24: draws -/
section
variable {k : Nat} {R : Sto} {Q : D → Sto → Prop} {d : DS} {m : Nat}
theorem taken_w {b : Nat} {row : List D} (hl : row.length < 1000) (hm : m ≤ row.length) (hb : R[b]? = some (.lst row)) (h : ∀ (left got : List D) (d' : DS), (∀ x ∈ got, x ∈ row) → got.length = m → Q (.ref (R.length + 3)) (d'.st (R ++ [.lst left] ++ [.lst got]))) : W (orc T (k + 2) n__law_taken [.ref 1, .ref (b + 2), natD m] (d.st R)) Q := by
  refine orc_w (ρ := [some (.ref 1), some (.ref (b + 2)), some (natD m), none, none]) rfl rfl rfl ?_
  show W (evSs _ b__law_taken _ _) _
  simp only [b__law_taken]
  have hq : (d.st R)[b + 2]? = some (.lst row) := hb
  mul_fits
  simp only [st_len, st_app]
  refine ⟨by show (rgD 0 _).length ≤ sizeLine; rw [rgD0]; simp; exact le_size (by omega), ?_⟩
  refine loopQ_w (fun ds r S' => ∃ (left : List D) (d' : DS), S' = d'.st (R ++ [.lst left]) ∧ r.length + ds.length = m ∧ left.length + r.length = row.length ∧ (∀ x ∈ left, x ∈ row) ∧ ∀ x ∈ r, x ∈ row) ?_ ?_ _ _ ⟨row, d, rfl, by rw [rgD0]; simp, by simp, fun _ h => h, by simp⟩
  · rintro e ds r S' ⟨left, d', rfl, h1, h2, h3, h4⟩
    refine ⟨trivial, ?_⟩
    rw [List.length_cons] at h1
    have k1 : ∀ d : DS, (d.st (R ++ [.lst left]))[R.length + 2]? = some (.lst left) := fun d => st_end
    have kk := k1 d'
    mul_fits
    refine draw_ (m := (left.length : Int)) (by omega) (by omega) fun y d1 y0 y1 => ?_
    have hy : y.toNat < left.length := by omega
    have yb : -(2 ^ 63) ≤ y ∧ y < 2 ^ 63 := by constructor <;> omega
    refine v_popAt (k := y.toNat) (d := left[y.toNat]) (k1 d1) yb ?_ (by simp [hy]) ?_
    · have e0 : ¬ y < 0 := by omega
      show (if 0 ≤ (if y < 0 then y + (left.length : Int) else y) && decide ((if y < 0 then y + (left.length : Int) else y) < (left.length : Int)) then some (if y < 0 then y + (left.length : Int) else y).toNat else none) = some y.toNat
      rw [if_neg e0]
      simp [y0, y1]
    rw [st_set, set_end]
    mul_fits
    refine ⟨left.eraseIdx y.toNat, d1, rfl, by simp; omega, ?_, fun x hx => h3 x (List.mem_of_mem_eraseIdx hx), fun x hx => ?_⟩
    · rw [List.length_eraseIdx, if_pos hy]
      simp
      omega
    · rcases List.mem_append.mp hx with hx | hx
      · exact h4 x hx
      · rw [List.mem_singleton.mp hx]
        exact h3 _ (List.getElem_mem hy)
  · rintro r S' ⟨left, d', rfl, h1, h2, h3, h4⟩
    refine ⟨trivial, ?_⟩
    mul_fits
    simp only [st_len, st_app]
    rw [gc_out (by simp [below, st_len])]
    have := h left r d' h4 (by simpa using h1)
    refine w_ok ?_
    rw [show (R ++ [Ob.lst left]).length + 2 = R.length + 3 by simp]
    exact this
/-- letters, one at least -/
def Ltr (xs : List Str) : Prop := 0 < xs.length ∧ xs.length ≤ 26 ∧ ∀ s ∈ xs, ∃ c, Az c ∧ s = ⟨#[c]⟩
theorem strs_of_lt : ∀ {l : List D}, (∀ x ∈ l, Lt x) → ∃ xs : List Str, l = xs.map D.str ∧ ∀ s ∈ xs, ∃ c, Az c ∧ s = ⟨#[c]⟩
  | [], _ => ⟨[], rfl, by simp⟩
  | x :: l, h => by
    obtain ⟨xs, e1, e2⟩ := strs_of_lt (l := l) fun y hy => h y (by simp [hy])
    obtain ⟨c, hc, rfl⟩ := h x (by simp)
    refine ⟨⟨#[c]⟩ :: xs, by rw [e1]; rfl, fun s hs => ?_⟩
    rcases List.mem_cons.mp hs with rfl | hs
    · exact ⟨c, hc, rfl⟩
    · exact e2 s hs
theorem menu_w (m0 : 0 < m) (m1 : m ≤ 25) (h : ∀ (xs : List Str) (g : Sto) (d' : DS), Ltr xs → xs.length ≤ m → Q (.ref (R.length + g.length + 2)) (d'.st (R ++ (g ++ [.lst (xs.map D.str)])))) : W (orc T (k + 3) n__law_menu [.ref 1, natD m] (d.st R)) Q := by
  refine orc_w (ρ := [some (.ref 1), some (natD m)]) rfl rfl rfl ?_
  show W (evSs _ b__law_menu _ _) _
  simp only [b__law_menu]
  have ll : (lettersD "abcdefghijklmnopqrstuvwxyz").length = 26 := by decide
  have hlt0 : ∀ x ∈ lettersD "abcdefghijklmnopqrstuvwxyz", Lt x := by
    intro x hx
    obtain ⟨c, hc, rfl⟩ := List.mem_map.mp hx
    have key : ∀ c ∈ abcS.cps.toList, Az c := by decide
    exact ⟨c, key c hc, rfl⟩
  mul_fits
  generalize hL : lettersD "abcdefghijklmnopqrstuvwxyz" = L at ll hlt0 ⊢
  mul_fits
  simp only [st_len, st_app]
  refine draw_ (m := (m : Int)) (by omega) (by omega) fun y d1 y0 y1 => ?_
  mul_fits
  have ey : (1 : Int) + y = ((y.toNat + 1 : Nat) : Int) := by omega
  rw [ey]
  refine taken_w (b := R.length) (by omega) (by omega) (get_end _ _) fun left got d2 g1 g2 => ?_
  obtain ⟨xs, rfl, x2⟩ := strs_of_lt (l := got) fun x hx => hlt0 x (g1 x hx)
  rw [List.length_map] at g2
  have k1 : (d2.st (R ++ [.lst L] ++ [.lst left] ++ [.lst (xs.map D.str)]))[(R ++ [Ob.lst L]).length + 3]? = some (.lst (xs.map D.str)) := by
    rw [show (R ++ [Ob.lst L]).length + 3 = (R ++ [Ob.lst L] ++ [Ob.lst left]).length + 2 by simp]
    exact st_end
  mul_fits
  refine v_sortS ?_
  have hp : (xs.mergeSort (PySem.W.dataLe false PyData.str)).Perm xs := List.mergeSort_perm _ _
  generalize xs.mergeSort (PySem.W.dataLe false PyData.str) = ys at hp ⊢
  mul_fits
  rw [gc_out (by simp [below, st_len])]
  refine w_ok ?_
  have := h ys ([.lst L] ++ [.lst left] ++ [.lst (xs.map D.str)]) d2 ⟨by rw [hp.length_eq]; omega, by rw [hp.length_eq]; omega, fun s hs => x2 s (hp.mem_iff.mp hs)⟩ (by rw [hp.length_eq]; omega)
  have e1 : R ++ ([.lst L] ++ [.lst left] ++ [.lst (xs.map D.str)] ++ [.lst (ys.map D.str)]) = R ++ [Ob.lst L] ++ [Ob.lst left] ++ [Ob.lst (xs.map D.str)] ++ [Ob.lst (ys.map D.str)] := by simp
  rw [e1] at this
  rw [st_app, st_len, show (R ++ [Ob.lst L] ++ [Ob.lst left] ++ [Ob.lst (xs.map D.str)]).length + 2 = R.length + ([Ob.lst L] ++ [Ob.lst left] ++ [Ob.lst (xs.map D.str)]).length + 2 by simp]
  exact this
theorem marksS_w {b n : Nat} {xs : List Str} (hn : n ≤ 60) (hx : Ltr xs) (hb : R[b]? = some (.lst (xs.map D.str))) (h : ∀ (ms : List Nat) (d' : DS), ms.length = n → (∀ c ∈ ms, (⟨#[c]⟩ : Str) ∈ xs) → Q (.str (stS ms)) (d'.st R)) : W (orc T (k + 3) n__law_marks [.ref 1, natD n, .ref (b + 2)] (d.st R)) Q := by
  refine orc_w (ρ := [some (.ref 1), some (natD n), some (.ref (b + 2)), none]) rfl rfl rfl ?_
  show W (evSs _ b__law_marks _ _) _
  simp only [b__law_marks]
  mul_fits
  refine ⟨le64 (by show (rgD 0 _).length ≤ 64; rw [rgD0]; simp; omega), ?_⟩
  refine loopQ_w (fun ds r S' => ∃ (l : List Nat) (d' : DS), r = l.map singD ∧ S' = d'.st R ∧ l.length + ds.length = n ∧ ∀ c ∈ l, (⟨#[c]⟩ : Str) ∈ xs) ?_ ?_ _ _ ⟨[], d, rfl, rfl, by rw [rgD0]; simp, by simp⟩
  · rintro e ds r S' ⟨l, d', rfl, rfl, h1, h2⟩
    refine ⟨trivial, ?_⟩
    mul_fits
    refine pick_w (by rw [List.length_map]; exact hx.1) (by rw [List.length_map]; have := hx.2.1; omega) hb fun x hxx d2 => ?_
    obtain ⟨s, hs, rfl⟩ := List.mem_map.mp hxx
    obtain ⟨c, hc, rfl⟩ := hx.2.2 s hs
    mul_fits
    refine ⟨l ++ [c], d2, by simp [singD], rfl, by simp at h1 ⊢; omega, fun x hx => ?_⟩
    rcases List.mem_append.mp hx with hx | hx
    · exact h2 x hx
    · rw [List.mem_singleton.mp hx]
      exact hs
  · rintro r S' ⟨l, d', rfl, rfl, h1, h2⟩
    refine ⟨trivial, ?_⟩
    have hll : l.length = n := by simpa using h1
    mul_fits
    try (refine w_may (strs_sing _) ?_)
    refine w_ask ?_ ?_
    · rw [sum_ones]
      have : Str.length "" = 0 := by decide
      rw [this]
      omega
    rw [glued_sing]
    mul_fits
    rw [gc_same (by rfl)]
    exact w_ok (h l d' hll h2)
theorem worth_w (h : ∀ (v : Int) (d' : DS), Q (.int v) (d'.st R)) : W (orc T (k + 3) n__law_worth [.ref 1] (d.st R)) Q := by
  refine orc_w (ρ := [some (.ref 1)]) rfl rfl rfl ?_
  show W (evSs _ b__law_worth _ _) _
  simp only [b__law_worth]
  mul_fits
  refine draw_ (by decide) (by decide) fun y d1 y0 y1 => ?_
  mul_fits
  simp only [st_len, st_app]
  refine pick_w (b := R.length) (by simp) (by simp) (get_end _ _) fun x hx d2 => ?_
  have hxi : ∃ v : Int, x = .int v := by
    simp at hx
    rcases hx with rfl | rfl | rfl | rfl | rfl <;> exact ⟨_, rfl⟩
  obtain ⟨v, rfl⟩ := hxi
  mul_fits
  exact gc_st2 trivial (h v d2)
theorem subset_w {c : Nat} (hc : c ≤ 2) (h : ∀ (l : List Int) (d' : DS), l.length ≤ 3 → Q (intsD l) (d'.st R)) : W (orc T (k + 2) n__law_subset [.ref 1, natD c] (d.st R)) Q := by
  refine orc_w (ρ := [some (.ref 1), some (natD c), none, none]) rfl rfl rfl ?_
  show W (evSs _ b__law_subset _ _) _
  simp only [b__law_subset]
  mul_fits
  have ec : ((c : Int) + 1).toNat = c + 1 := by omega
  have hb : (1 : Int) * 2 ^ ((c : Int) + 1).toNat = 2 ∨ (1 : Int) * 2 ^ ((c : Int) + 1).toNat = 4 ∨ (1 : Int) * 2 ^ ((c : Int) + 1).toNat = 8 := by
    rw [ec]
    rcases (show c = 0 ∨ c = 1 ∨ c = 2 by omega) with rfl | rfl | rfl <;> decide
  refine draw_ (by omega) (by omega) fun y d1 y0 y1 => ?_
  mul_fits
  rw [show ((c : Int) + 1) = ((c + 1 : Nat) : Int) from rfl, rgD0]
  refine ⟨le64 (by simp; omega), ?_⟩
  refine loopQ_f (enc := natD) (p := fun q => decide (((1 + y).fdiv (1 * 2 ^ ((q : Nat) : Int).toNat)).fmod 2 = 1)) (g := natD) (I := fun S' => S' = d1.st R) (List.range (c + 1)) (fun q hq S' e => ?_) (fun S' e => ?_) _ rfl
  · subst e
    refine ⟨trivial, ?_⟩
    have hq' := List.mem_range.mp hq
    have eq' : ((q : Nat) : Int).toNat = q := by omega
    have cp : CPow 1 (q : Int) := by unfold CPow; omega
    have fo : FDivOk (1 + y) (1 * 2 ^ ((q : Nat) : Int).toNat) := by
      rw [eq']
      rcases (show q = 0 ∨ q = 1 ∨ q = 2 by omega) with rfl | rfl | rfl <;> exact fdiv_small (by decide) (by decide +kernel) _
    mul_fits
    by_cases cc : decide (((1 + y).fdiv (1 * 2 ^ ((q : Nat) : Int).toNat)).fmod 2 = 1) = true
    · rw [if_pos cc, if_pos cc]
      mul_fits
      exact ⟨rfl, rfl⟩
    · rw [if_neg cc, if_neg cc]
      mul_fits
      exact ⟨rfl, rfl⟩
  · subst e
    refine ⟨trivial, ?_⟩
    have hlen : ((List.range (c + 1)).filter (fun q => decide (((1 + y).fdiv (1 * 2 ^ ((q : Nat) : Int).toNat)).fmod 2 = 1))).length ≤ 3 := by
      have := List.length_filter_le (fun q => decide (((1 + y).fdiv (1 * 2 ^ ((q : Nat) : Int).toNat)).fmod 2 = 1)) (List.range (c + 1))
      rw [List.length_range] at this
      omega
    generalize (List.range (c + 1)).filter (fun q => decide (((1 + y).fdiv (1 * 2 ^ ((q : Nat) : Int).toNat)).fmod 2 = 1)) = l at hlen ⊢
    have e : l.map natD = (l.map fun (n : Nat) => (n : Int)).map D.int := by rw [List.map_map]; rfl
    rw [e]
    mul_fits
    rw [gc_same (by rfl)]
    exact w_ok (h _ d1 (by rw [List.length_map]; exact hlen))
/-- ties between spots, of some strands -/
def TiesIn (n : Nat) (xs : List Str) (pt : List Pt) : Prop := ∀ p ∈ pt, p.one < n ∧ p.other < n ∧ p.strand ∈ xs
theorem tied_w {b n : Nat} {xs : List Str} (hn : n ≤ 64) (hm : m ≤ 200) (hx : Ltr xs) (hb : R[b]? = some (.lst (xs.map D.str))) (h : ∀ (pt : List Pt) (d' : DS), TiesIn n xs pt → pt.length ≤ 200 → Q (.tup (pt.map Pt.d)) (d'.st R)) : W (orc T (k + 3) n__law_tied [.ref 1, natD n, natD m, .ref (b + 2)] (d.st R)) Q := by
  refine orc_w (ρ := [some (.ref 1), some (natD n), some (natD m), some (.ref (b + 2)), none, none, none, none]) rfl rfl rfl ?_
  show W (evSs _ b__law_tied _ _) _
  simp only [b__law_tied]
  mul_fits
  simp only [st_len, st_app]
  have fin : ∀ (d1 : DS) (pt : List Pt) (o5 o6 o7 : Option D), TiesIn n xs pt → pt.length ≤ 200 → W (evSs (orc T (k + 2)) b__law_tied_2 [some (.ref 1), some (natD n), some (natD m), some (.ref (b + 2)), some (.ref (R.length + 2)), o5, o6, o7] (d1.st (R ++ [.lst (pt.map Pt.d)]))) fun fl S1 => W (retK fl S1) fun d_2 S' => W (gc (d.st R) d_2 S') Q := by
    intro d1 pt o5 o6 o7 h1 h2
    simp only [b__law_tied_2]
    have k1 : (d1.st (R ++ [.lst (pt.map Pt.d)]))[R.length + 2]? = some (.lst (pt.map Pt.d)) := st_end
    mul_fits
    refine sort_pts ?_
    mul_fits
    refine gc_st2 (below_pts _) (h (srt pt) d1 (fun p hp => h1 p ((srt_perm pt).mem_iff.mp hp)) (by rw [(srt_perm pt).length_eq]; exact h2))
  refine w_ifd (fun c => ?_) fun c => ?_
  rotate_left
  · mul_fits
    rw [show rgD 0 0 = ([] : List D) from rfl]
    refine ls_nil trivial ?_
    mul_fits
    exact fin d [] none none none (fun _ z => nomatch z) (by simp)
  have n1 : 1 < n := by omega
  mul_fits
  rw [rgD0]
  refine loopS_w (fun ds ρ S' => ∃ (ks : List Nat) (pt : List Pt) (o5 o6 o7 : Option D) (d1 : DS), ds = ks.map natD ∧ S' = d1.st (R ++ [.lst (pt.map Pt.d)]) ∧ ρ = [some (.ref 1), some (natD n), some (natD m), some (.ref (b + 2)), some (.ref (R.length + 2)), o5, o6, o7] ∧ TiesIn n xs pt ∧ pt.length + ks.length ≤ 200) ?_ ?_ _ _ _ ⟨List.range m, [], _, _, _, d, rfl, rfl, rfl, by simp [TiesIn], by simp; omega⟩
  · rintro e ds ρ S' ⟨ks, pt, o5, o6, o7, d1, hds, rfl, rfl, h1, h2⟩
    refine ⟨trivial, ?_⟩
    cases ks with
    | nil => exact absurd hds (by simp)
    | cons q ks =>
    rw [List.map_cons, List.cons.injEq] at hds
    obtain ⟨rfl, rfl⟩ := hds
    rw [List.length_cons] at h2
    simp only [b__law_tied_1]
    mul_fits
    refine draw_ (by omega) (by omega) fun y d2 y0 y1 => ?_
    mul_fits
    refine draw_ (by omega) (by omega) fun z d3 z0 z1 => ?_
    have hnz : (n : Int) ≠ 0 := by omega
    mul_fits
    have k1 : ∀ d : DS, (d.st (R ++ [.lst (pt.map Pt.d)]))[R.length + 2]? = some (.lst (pt.map Pt.d)) := fun d => st_end
    have kk := k1 d3
    have kk2 : (pt.map Pt.d).length < sizeLine := by rw [List.length_map]; exact le_size (by omega)
    mul_fits
    refine pick_w (by rw [List.length_map]; exact hx.1) (by rw [List.length_map]; have := hx.2.1; omega) (get_pre hb) fun x hxx d4 => ?_
    obtain ⟨s, hs, rfl⟩ := List.mem_map.mp hxx
    have u0 : 0 ≤ (y + 1 + z).fmod n := Int.fmod_nonneg_of_pos _ (by omega)
    have u1 : (y + 1 + z).fmod n < n := Int.fmod_lt_of_pos _ (by omega)
    generalize (y + 1 + z).fmod (n : Int) = u at u0 u1 ⊢
    obtain ⟨y', rfl⟩ : ∃ y' : Nat, y = (y' : Int) := ⟨y.toNat, by omega⟩
    obtain ⟨u', rfl⟩ : ∃ u' : Nat, u = (u' : Int) := ⟨u.toNat, by omega⟩
    have k3 := k1 d4
    have e1 : (if (u' : Int) < (y' : Int) then (u' : Int) else (y' : Int)) = ((min y' u' : Nat) : Int) := by
      split <;> omega
    have e2 : (if (u' : Int) > (y' : Int) then (u' : Int) else (y' : Int)) = ((max y' u' : Nat) : Int) := by
      split <;> omega
    rw [e1, e2]
    mul_fits
    rw [st_set, set_end]
    refine ⟨_, .inl rfl, ks, pt ++ [⟨min y' u', max y' u', s⟩], _, _, _, d4, rfl, by simp, rfl, fun p hp => ?_, by simp; omega⟩
    rcases List.mem_append.mp hp with hp | hp
    · exact h1 p hp
    · rw [List.mem_singleton.mp hp]
      exact ⟨by show min y' u' < n; omega, by show max y' u' < n; omega, hs⟩
  · rintro ρ S' ⟨ks, pt, o5, o6, o7, d1, hds, rfl, rfl, h1, h2⟩
    refine ⟨trivial, ?_⟩
    cases ks with
    | cons q ks => exact absurd hds (by simp)
    | nil =>
    mul_fits
    exact fin d1 pt _ _ _ h1 (by simpa using h2)
end
/-! ### k24: the planned rows of ties -/
def tkey (s : Str) (a b : Int) : NestedKey := .tup [.text s, .num a, .num b]
theorem tkey_ok {s : Str} {a b : Int} : keyT (.tup [.str s, .int a, .int b]) = some (tkey s a b) := keyT_tup rfl (Nat.le_of_ble_eq_true rfl)
def skey (s : Str) (a : Int) : NestedKey := .tup [.text s, .num a]
theorem skey_ok {s : Str} {a : Int} : keyT (.tup [.str s, .int a]) = some (skey s a) := keyT_tup rfl (Nat.le_of_ble_eq_true rfl)
/-- a dict that may have tuple keys -/
def Tbo (o : Ob) (es : List (NestedKey × D)) : Prop := (o = .dic [] ∧ es = []) ∨ o = .dkt es
theorem Tbo.tab {S : Sto} {a : Nat} {o : Ob} {es : List (NestedKey × D)} (h : Tbo o es) (k : S[a]? = some o) : tabOf S (.val (.ref a)) = some es := by
  rcases h with ⟨rfl, rfl⟩ | rfl <;> simp only [tabOf, k]
def Cvr (ti : List PTi) (s : Str) (a b : Int) : Prop := ∃ t ∈ ti, t.strand = s ∧ t.low = a ∧ t.high = b
theorem Cvr.app {ti : List PTi} {s : Str} {a b : Int} (h : Cvr ti s a b) (t : PTi) : Cvr (ti ++ [t]) s a b := by
  obtain ⟨x, h1, h2⟩ := h
  exact ⟨x, by simp [h1], h2⟩
theorem tieRow_cov {ti : List PTi} {s : Str} {a b : Int} (h : Cvr ti s (loI a b) (hiI a b)) : tieRow ti s a b ≠ none := by
  induction ti with
  | nil => obtain ⟨t, h, _⟩ := h; cases h
  | cons t ts ih =>
    rw [tieRow]
    split
    · split <;> simp
    · rename_i c
      refine ih ?_
      obtain ⟨x, h1, h2⟩ := h
      rcases List.mem_cons.mp h1 with rfl | h1
      · exact absurd h2 c
      · exact ⟨x, h1, h2⟩
theorem gI_rg {l : List Int} {n : Int} (h : ∀ x ∈ l, 0 ≤ x ∧ x < n) {i : Nat} (hi : i < l.length) : 0 ≤ gI l i ∧ gI l i < n := by
  have : gI l i = l[i] := by unfold gI; rw [List.getD_eq_getElem?_getD, List.getElem?_eq_getElem hi]; rfl
  rw [this]
  exact h _ (List.getElem_mem hi)
theorem lohi {a b n : Int} (h1 : 0 ≤ a ∧ a < n) (h2 : 0 ≤ b ∧ b < n) : 0 ≤ loI a b ∧ loI a b ≤ hiI a b ∧ hiI a b < n := by
  unfold loI hiI
  split <;> split <;> omega
theorem pd_ptis (l : List PTi) : Pd (.tup (l.map PTi.d)) := pd_map fun _ _ => ⟨trivial, trivial, trivial, trivial, trivial, trivial, trivial⟩
section
variable {k : Nat} {R : Sto} {Q : D → Sto → Prop} {d : DS} {m : Nat}
theorem planned_ties_w {b tg c ar : Nat} {ms : Str} {pt : List Pt} {plan : List Int} {xs : List Str} (hx : Ltr xs) (hb : R[b]? = some (.lst (xs.map D.str))) (htg : tg ≤ 3) (hc : c ≤ 2)
    (hr : ∀ t ∈ plan, 0 ≤ t ∧ t < (tg : Int)) (hp : ∀ p ∈ pt, p.one < plan.length ∧ p.other < plan.length ∧ p.strand ∈ xs) (hl : pt.length ≤ 300)
    (h : ∀ (ti : List PTi) (d' : DS), (∀ t ∈ ti, 0 ≤ t.one ∧ 0 ≤ t.other ∧ t.strand ∈ xs) → ti.length ≤ 300 → (∀ p ∈ pt, Cvr ti p.strand (loI (gI plan p.one) (gI plan p.other)) (hiI (gI plan p.one) (gI plan p.other))) → Q (.tup (ti.map PTi.d)) (d'.st R)) :
    W (orc T (k + 4) n__law_planned_ties [.ref 1, pieceD ar ms pt, intsD plan, natD tg, natD c, .ref (b + 2)] (d.st R)) Q := by
  refine orc_w (ρ := [some (.ref 1), some (pieceD ar ms pt), some (intsD plan), some (natD tg), some (natD c), some (.ref (b + 2)), none, none, none, none, none, none, none, none, none]) rfl rfl rfl ?_
  show W (evSs _ b__law_planned_ties _ _) _
  simp only [b__law_planned_ties]
  mul_fits
  simp only [st_len, st_app]
  refine loopS_e (enc := Pt.d) (fun rest ρ S' => ∃ (o : Ob) (es : List (NestedKey × D)) (o7 o8 o9 : Option D), S' = d.st (R ++ [o]) ∧ Tbo o es ∧ ρ = [some (.ref 1), some (pieceD ar ms pt), some (intsD plan), some (natD tg), some (natD c), some (.ref (b + 2)), some (.ref (R.length + 2)), o7, o8, o9, none, none, none, none, none] ∧
    es.length + rest.length ≤ pt.length ∧ (∀ p ∈ rest, p ∈ pt) ∧ ∀ p ∈ pt, p ∈ rest ∨ (gT es (tkey p.strand (loI (gI plan p.one) (gI plan p.other)) (hiI (gI plan p.one) (gI plan p.other)))).isSome = true) ?_ ?_ _ _ _ ⟨.dic [], [], none, none, none, rfl, .inl ⟨rfl, rfl⟩, rfl, by simp, fun _ h => h, fun p hp => .inl hp⟩
  · rintro p rest ρ S' ⟨o, es, o7, o8, o9, rfl, tb, rfl, h1, h2, h3⟩
    refine ⟨trivial, ?_⟩
    obtain ⟨p1, p2, p3⟩ := hp p (h2 p (by simp))
    rw [List.length_cons] at h1
    simp only [b__law_planned_ties_1]
    have a1 := at_ints plan p.one p1
    have a2 := at_ints plan p.other p2
    mul_fits
    refine tab_set (t := tkey p.strand (loI (gI plan p.one) (gI plan p.other)) (hiI (gI plan p.one) (gI plan p.other))) (tb.tab st_end) tkey_ok (Nat.lt_of_lt_of_le (show es.length < 1000 by omega) (le_size (by decide))) ?_
    rw [st_set, set_end]
    mul_fits
    refine ⟨_, .inl rfl, _, _, _, _, _, rfl, .inr rfl, rfl, ?_, fun q hq => h2 q (by simp [hq]), fun q hq => ?_⟩
    · have := pT_len es (tkey p.strand (loI (gI plan p.one) (gI plan p.other)) (hiI (gI plan p.one) (gI plan p.other))) (D.bl true)
      omega
    · rw [gT_pT]
      rcases h3 q hq with z | z
      · rcases List.mem_cons.mp z with rfl | z
        · right
          rw [if_pos rfl]
          rfl
        · exact .inl z
      · right
        split
        · rfl
        · exact z
  · rintro ρ S' ⟨o, es, o7, o8, o9, rfl, tb, rfl, h1, h2, h3⟩
    refine ⟨trivial, ?_⟩
    have nd : ∀ p ∈ pt, (gT es (tkey p.strand (loI (gI plan p.one) (gI plan p.other)) (hiI (gI plan p.one) (gI plan p.other)))).isSome = true := fun p hp => (h3 p hp).resolve_left (by simp)
    clear h1 h2 h3
    mul_fits
    simp only [b__law_planned_ties_2]
    mul_fits
    simp only [st_len, st_app]
    have hb' : ∀ (d' : DS) l, (d'.st (R ++ [o] ++ [.lst l]))[b + 2]? = some (.lst (xs.map D.str)) := fun d' l => by rw [st_get]; exact get_pre (get_pre hb)
    have hbd := hb' d []
    mul_fits
    refine loopS_e (enc := D.str) (fun rest ρ S' => ∃ (ti : List PTi) (d' : DS) (o7 o8 o9 o11 o12 o13 o14 : Option D), S' = d'.st (R ++ [o] ++ [.lst (ti.map PTi.d)]) ∧ ρ = [some (.ref 1), some (pieceD ar ms pt), some (intsD plan), some (natD tg), some (natD c), some (.ref (b + 2)), some (.ref (R.length + 2)), o7, o8, o9, some (.ref ((R ++ [o]).length + 2)), o11, o12, o13, o14] ∧
      ((∀ s ∈ rest, s ∈ xs) ∧ ti.length + 9 * rest.length ≤ 9 * xs.length) ∧ (∀ t ∈ ti, 0 ≤ t.one ∧ 0 ≤ t.other ∧ t.strand ∈ xs) ∧ ∀ s ∈ xs, s ∈ rest ∨ ∀ (x y : Nat), x ≤ y → y < tg → (gT es (tkey s x y)).isSome = true → Cvr ti s x y) ?_ ?_ _ _ _ ⟨[], d, _, _, _, _, _, _, _, rfl, rfl, ⟨fun _ z => z, by simp⟩, by simp, fun s hs => .inl hs⟩
    · rintro s rest ρ S' ⟨ti0, d0, o7, o8, o9, o11, o12, o13, o14, rfl, rfl, h1, h2, h3⟩
      refine ⟨hb' _ _, ?_⟩
      obtain ⟨h0, h1⟩ := h1
      rw [List.length_cons] at h1
      simp only [b__law_planned_ties_3]
      mul_fits
      rw [rgD_0]
      refine loop_rg (a := 0) (n := tg) (fun x ρ S' => ∃ (ti : List PTi) (d' : DS) (o11 o12 o13 o14 : Option D), S' = d'.st (R ++ [o] ++ [.lst (ti.map PTi.d)]) ∧ ρ = [some (.ref 1), some (pieceD ar ms pt), some (intsD plan), some (natD tg), some (natD c), some (.ref (b + 2)), some (.ref (R.length + 2)), o7, o8, some (.str s), some (.ref ((R ++ [o]).length + 2)), o11, o12, o13, o14] ∧
        ti.length ≤ ti0.length + 3 * x ∧ (∀ t ∈ ti, 0 ≤ t.one ∧ 0 ≤ t.other ∧ t.strand ∈ xs) ∧ (∀ s x y, Cvr ti0 s x y → Cvr ti s x y) ∧ ∀ (x' y : Nat), x' < x → x' ≤ y → y < tg → (gT es (tkey s x' y)).isSome = true → Cvr ti s x' y) ?_ ?_ _ _ ⟨ti0, d0, _, _, _, _, rfl, rfl, by omega, h2, fun _ _ _ z => z, fun x' y z => by omega⟩
      · rintro x ρ S' x0 x1 ⟨ti1, d1, o11, o12, o13, o14, rfl, rfl, g1, g2, g3, g4⟩
        refine ⟨trivial, ?_⟩
        simp only [b__law_planned_ties_4]
        mul_fits
        rw [rgD_nat _ _ (by omega)]
        refine loop_rg (a := x) (n := tg - x) (fun y ρ S' => ∃ (ti : List PTi) (d' : DS) (o12 o13 o14 : Option D), S' = d'.st (R ++ [o] ++ [.lst (ti.map PTi.d)]) ∧ ρ = [some (.ref 1), some (pieceD ar ms pt), some (intsD plan), some (natD tg), some (natD c), some (.ref (b + 2)), some (.ref (R.length + 2)), o7, o8, some (.str s), some (.ref ((R ++ [o]).length + 2)), some (natD x), o12, o13, o14] ∧
          ti.length ≤ ti1.length + (y - x) ∧ (∀ t ∈ ti, 0 ≤ t.one ∧ 0 ≤ t.other ∧ t.strand ∈ xs) ∧ (∀ s x y, Cvr ti1 s x y → Cvr ti s x y) ∧ ∀ (y' : Nat), x ≤ y' → y' < y → (gT es (tkey s x y')).isSome = true → Cvr ti s x y') ?_ ?_ _ _ ⟨ti1, d1, _, _, _, rfl, rfl, by omega, g2, fun _ _ _ z => z, fun y' z1 z2 => by omega⟩
        · rintro y ρ S' y0 y1 ⟨ti, d2, o12, o13, o14, rfl, rfl, f1, f2, f3, f4⟩
          refine ⟨trivial, ?_⟩
          simp only [b__law_planned_ties_5]
          refine PQ.w_scons (PQ.w_ite (W_mono (Q := fun c S1 => ∃ d3 : DS, S1 = d3.st (R ++ [o] ++ [.lst (ti.map PTi.d)]) ∧ ((gT es (tkey s x y)).isSome = true → c = true)) ?_ ?_))
          · mul_fits
            refine w_may (tab_in (tb.tab st_mid) tkey_ok) ?_
            mul_fits
            refine w_if (fun cc => ?_) fun cc => ?_
            · mul_fits
              exact fun _ => rfl
            · mul_fits
              refine draw_ (by decide) (by decide) fun z d3 z0 z1 => ?_
              mul_fits
              exact fun z => by rw [cc] at z; cases z
          rintro cc S1 ⟨d3, rfl, hcc⟩
          refine w_if (fun c1 => ?_) fun c1 => ?_
          rotate_left
          · mul_fits
            refine ⟨_, .inl rfl, ti, d3, _, _, _, rfl, rfl, by omega, f2, f3, fun y' z1 z2 z3 => ?_⟩
            rcases Nat.lt_succ_iff_lt_or_eq.mp z2 with z2 | rfl
            · exact f4 y' z1 z2 z3
            · rw [hcc z3] at c1; cases c1
          mul_fits
          refine draw_ (by omega) (by omega) fun u1 d4 u10 u11 => ?_
          refine PQ.w_scons (PQ.w_set (W_mono (Q := fun v S1 => ∃ (d5 : DS) (u2 : Int), v = .int u2 ∧ S1 = d5.st (R ++ [o] ++ [.lst (ti.map PTi.d)]) ∧ 0 ≤ u2) ?_ ?_))
          · mul_fits
            refine w_ifd (fun cc => ?_) fun cc => ?_
            · mul_fits
              exact ⟨d4, u1, rfl, rfl, u10⟩
            · mul_fits
              refine draw_ (by omega) (by omega) fun u2 d5 u20 u21 => ?_
              exact ⟨d5, u2, rfl, rfl, u20⟩
          rintro v S1 ⟨d5, u2, rfl, rfl, u20⟩
          have kl : ∀ d' : DS, (d'.st (R ++ [o] ++ [.lst (ti.map PTi.d)]))[(R ++ [o]).length + 2]? = some (.lst (ti.map PTi.d)) := fun d' => by
            exact st_end
          have kl5 := kl d5
          mul_fits
          refine worth_w fun wv d6 => ?_
          have kl6 := kl d6
          have kls : (ti.map PTi.d).length < sizeLine := Nat.lt_of_lt_of_le (show (ti.map PTi.d).length < 1000 by have := hx.2.1; simp; omega) (le_size (by decide))
          mul_fits
          rw [st_set, set_end]
          refine ⟨_, .inl rfl, ti ++ [⟨s, x, y, u1, u2, wv⟩], d6, _, _, _, by simp, rfl, by simp; omega, fun t ht => ?_, fun s x y z => (f3 s x y z).app _, fun y' z1 z2 z3 => ?_⟩
          · rcases List.mem_append.mp ht with ht | ht
            · exact f2 t ht
            · rw [List.mem_singleton.mp ht]; exact ⟨u10, u20, h0 s (by simp)⟩
          · rcases Nat.lt_succ_iff_lt_or_eq.mp z2 with z2 | rfl
            · exact (f4 y' z1 z2 z3).app _
            · exact ⟨⟨s, x, y', u1, u2, wv⟩, by simp, rfl, rfl, rfl⟩
        · rintro ρ S' ⟨ti, d2, o12, o13, o14, rfl, rfl, f1, f2, f3, f4⟩
          refine ⟨trivial, ?_⟩
          mul_fits
          refine ⟨_, .inl rfl, ti, d2, _, _, _, _, rfl, rfl, by omega, f2, fun s x y z => f3 s x y (g3 s x y z), fun x' y z1 z2 z3 z4 => ?_⟩
          rcases Nat.lt_succ_iff_lt_or_eq.mp z1 with z1 | rfl
          · exact f3 _ _ _ (g4 x' y z1 z2 z3 z4)
          · exact f4 y z2 (by omega) z4
      · rintro ρ S' ⟨ti, d1, o11, o12, o13, o14, rfl, rfl, g1, g2, g3, g4⟩
        refine ⟨trivial, ?_⟩
        mul_fits
        refine ⟨_, .inl rfl, ti, d1, _, _, _, _, _, _, _, rfl, rfl, ⟨fun s hs => h0 s (by simp [hs]), by omega⟩, g2, fun s' hs' => ?_⟩
        rcases h3 s' hs' with z | z
        · rcases List.mem_cons.mp z with rfl | z
          · exact .inr fun x y z1 z2 z3 => g4 x y (by omega) z1 z2 z3
          · exact .inl z
        · exact .inr fun x y z1 z2 z3 => g3 _ _ _ (z x y z1 z2 z3)
    · rintro ρ S' ⟨ti, d', o7, o8, o9, o11, o12, o13, o14, rfl, rfl, h1, h2, h3⟩
      refine ⟨hb' _ _, ?_⟩
      mul_fits
      simp only [b__law_planned_ties_6]
      have kl : (d'.st (R ++ [o] ++ [.lst (ti.map PTi.d)]))[(R ++ [o]).length + 2]? = some (.lst (ti.map PTi.d)) := by
        exact st_end
      mul_fits
      rw [List.append_assoc]
      refine gc_st2 ((pd_ptis ti).b _) (h ti d' h2 (by have := hx.2.1; have h1 := h1.2; simp at h1; omega) fun p hpp => ?_)
      obtain ⟨p1, p2, p3⟩ := hp p hpp
      have q := lohi (gI_rg hr p1) (gI_rg hr p2)
      have := (h3 p.strand p3).resolve_left (by simp) (loI (gI plan p.one) (gI plan p.other)).toNat (hiI (gI plan p.one) (gI plan p.other)).toNat (by omega) (by omega)
      rw [Int.toNat_of_nonneg q.1, Int.toNat_of_nonneg (by omega)] at this
      exact this (nd p hpp)
end
/-! ### k24: the planned rows of spots -/
section
variable {R G : Sto} {d : DS} {o p : Ob} {i : Nat}
theorem st_G : (d.st (R ++ [o] ++ G))[R.length + 1 + i + 2]? = G[i]? := by
  rw [st_get, List.getElem?_append_right (by simp <;> omega)]
  congr 1
  simp
theorem set_G : (d.st (R ++ [o] ++ G)).set (R.length + 1 + i + 2) p = d.st (R ++ [o] ++ G.set i p) := by
  rw [st_set, List.set_append_right _ _ (by simp <;> omega)]
  congr 2
  simp
theorem app_G {g : Sto} : d.st (R ++ [o] ++ G) ++ g = d.st (R ++ [o] ++ (G ++ g)) := by
  rw [st_app, List.append_assoc]
theorem len_G : (d.st (R ++ [o] ++ G)).length = R.length + 1 + G.length + 2 := by
  rw [st_len]
  simp
  omega
theorem get_RG {q : Ob} {b : Nat} (h : R[b]? = some q) : (d.st (R ++ [o] ++ G))[b + 2]? = some q := by
  rw [st_get]
  exact get_pre (get_pre h)
end
/-- a spot's row, with the tally -/
def Cvs (sp : List PSp) (s : Str) (a v : Int) : Prop := (∃ t ∈ sp, t.mark = s ∧ t.tag = a) ∧ ∀ t ∈ sp, t.mark = s → t.tag = a → v ∈ t.tal
theorem spotRow_cov {sp : List PSp} {s : Str} {a v : Int} (h : Cvs sp s a v) : ∃ w l, spotRow sp s a = some (w, l) ∧ v ∈ l := by
  obtain ⟨⟨t, ht, e1, e2⟩, h2⟩ := h
  induction sp with
  | nil => cases ht
  | cons x sp ih =>
    rw [spotRow]
    by_cases c : x.mark = s ∧ x.tag = a
    · rw [if_pos c]
      exact ⟨_, _, rfl, h2 x (by simp) c.1 c.2⟩
    · rw [if_neg c]
      rcases List.mem_cons.mp ht with rfl | ht
      · exact absurd ⟨e1, e2⟩ c
      · exact ih (fun y hy => h2 y (by simp [hy])) ht
theorem pd_psps (l : List PSp) : Pd (.tup (l.map PSp.d)) := pd_map fun s _ => ⟨trivial, trivial, trivial, it_below (it_ints _), trivial⟩
section
variable {k : Nat} {R : Sto} {Q : D → Sto → Prop} {d : DS} {m : Nat}
theorem planned_spots_w {b bt tg c ar : Nat} {ms : Str} {pt : List Pt} {plan tl : List Int} {xs : List Str} (hx : Ltr xs) (hb : R[b]? = some (.lst (xs.map D.str))) (hbt : R[bt]? = some (.lst (tl.map .int))) (htg : tg ≤ 3) (hc : c ≤ 2)
    (hpl : plan.length = ar + ms.length) (htl : tl.length = ar + ms.length) (hm : ms.length ≤ 60) (hr : ∀ t ∈ plan, 0 ≤ t ∧ t < (tg : Int)) (hms : ∀ q, q < ms.length → mkS ms q ∈ xs)
    (h : ∀ (sp : List PSp) (d' : DS), sp.length ≤ 300 → (∀ t ∈ sp, t.mark ∈ xs) → (∀ q, q < ms.length → Cvs sp (mkS ms q) (gI plan (ar + q)) (gI tl (ar + q))) → Q (.tup (sp.map PSp.d)) (d'.st R)) :
    W (orc T (k + 4) n__law_planned_spots [.ref 1, pieceD ar ms pt, intsD plan, .ref (bt + 2), natD tg, natD c, .ref (b + 2)] (d.st R)) Q := by
  refine orc_w (ρ := [some (.ref 1), some (pieceD ar ms pt), some (intsD plan), some (.ref (bt + 2)), some (natD tg), some (natD c), some (.ref (b + 2)), none, none, none, none, none, none, none, none, none]) rfl rfl rfl ?_
  show W (evSs _ b__law_planned_spots _ _) _
  simp only [b__law_planned_spots]
  have q1 : ms.length ≤ sizeLine := le64 (by omega)
  mul_fits
  rw [rgD_0]
  simp only [st_len]
  refine loop_rg (a := 0) (n := ms.length) (fun n ρ S' => ∃ (o : Ob) (es : List (NestedKey × D)) (G : Sto) (o8 o9 o10 : Option D), S' = d.st (R ++ [o] ++ G) ∧ Tbo o es ∧ ρ = [some (.ref 1), some (pieceD ar ms pt), some (intsD plan), some (.ref (bt + 2)), some (natD tg), some (natD c), some (.ref (b + 2)), some (.ref (R.length + 2)), o8, o9, o10, none, none, none, none, none] ∧
    es.length ≤ n ∧ (∀ q ∈ G, ∃ l : List Int, q = .lst (l.map .int) ∧ l.length ≤ n) ∧ (∀ key v, gT es key = some v → ∃ i, i < G.length ∧ v = .ref (R.length + 1 + i + 2)) ∧
    ∀ q, q < n → ∃ (i : Nat) (l : List Int), gT es (skey (mkS ms q) (gI plan (ar + q))) = some (.ref (R.length + 1 + i + 2)) ∧ G[i]? = some (.lst (l.map .int)) ∧ gI tl (ar + q) ∈ l) ?_ ?_ _ _
    ⟨.dic [], [], [], none, none, none, by simp [st_app], .inl ⟨rfl, rfl⟩, rfl, by simp, by simp, fun _ _ z => by simp [gT] at z, fun q z => by omega⟩
  · rintro n ρ S' n0 n1 ⟨o, es, G, o8, o9, o10, rfl, tb, rfl, h1, h2, h3, h4⟩
    refine ⟨trivial, ?_⟩
    simp only [b__law_planned_spots_1]
    have hn : n < ms.length := by omega
    have a1 : atI ms.cps.toList (n : Int) = some (ms.cps.toList.getD n 0) := mark_at (str_len ms) hn
    have a2 : atI (plan.map D.int) ((ar : Int) + (n : Int)) = some (.int (gI plan (ar + n))) := by
      rw [← Int.natCast_add]
      exact at_ints _ _ (by omega)
    have a3 : atI (tl.map D.int) ((ar : Int) + (n : Int)) = some (.int (gI tl (ar + n))) := by
      rw [← Int.natCast_add]
      exact at_ints _ _ (by omega)
    mul_fits
    refine tab_k (tb.tab st_mid) ?_
    mul_fits
    rw [app_G, len_G]
    have hsz : es.length < sizeLine := Nat.lt_of_lt_of_le (show es.length < 1000 by omega) (le_size (by decide))
    refine tab_setd (t := skey (mkS ms n) (gI plan (ar + n))) (tb.tab st_mid) skey_ok hsz (fun v hv => ?_) fun hv => ?_
    · obtain ⟨i, hi, rfl⟩ := h3 _ _ hv
      obtain ⟨l, hl, hll⟩ := h2 G[i] (List.getElem_mem hi)
      have hg : G[i]? = some (.lst (l.map .int)) := by rw [List.getElem?_eq_getElem hi, hl]
      have k1 : (d.st (R ++ [o] ++ (G ++ [.lst []])))[R.length + 1 + i + 2]? = some (.lst (l.map .int)) := by rw [st_G]; exact get_pre hg
      have k2 : (d.st (R ++ [o] ++ (G ++ [.lst []])))[bt + 2]? = some (.lst (tl.map .int)) := get_RG hbt
      have k3 : (l.map D.int).length < sizeLine := Nat.lt_of_lt_of_le (show (l.map D.int).length < 1000 by simp; omega) (le_size (by decide))
      mul_fits
      rw [set_G, List.set_append_left _ _ hi]
      refine ⟨_, .inl rfl, o, es, G.set i (.lst ((l ++ [gI tl (ar + n)]).map .int)) ++ [.lst []], _, _, _, by simp, tb, rfl, by omega, fun q hq => ?_, fun key v z => ?_, fun q hq => ?_⟩
      · rcases List.mem_append.mp hq with hq | hq
        · rcases List.mem_or_eq_of_mem_set hq with hq | rfl
          · obtain ⟨l', e1, e2⟩ := h2 q hq
            exact ⟨l', e1, by omega⟩
          · exact ⟨_, rfl, by simp; omega⟩
        · rw [List.mem_singleton.mp hq]
          exact ⟨[], rfl, by simp⟩
      · obtain ⟨j, hj, e⟩ := h3 _ _ z
        exact ⟨j, by simp; omega, e⟩
      · have hgi : (G.set i (.lst ((l ++ [gI tl (ar + n)]).map .int)))[i]? = some (.lst ((l ++ [gI tl (ar + n)]).map .int)) := List.getElem?_set_self hi
        rcases Nat.lt_succ_iff_lt_or_eq.mp hq with hq | rfl
        · obtain ⟨j, l', e1, e2, e3⟩ := h4 q hq
          by_cases c : i = j
          · subst c
            rw [hg] at e2
            have e2 : l.map D.int = l'.map D.int := by injection e2 with e2; injection e2
            have e2 : l = l' := by
              have := congrArg intsOf e2
              rw [PQ.ints_map, PQ.ints_map] at this
              injection this
            subst e2
            exact ⟨i, _, e1, get_pre hgi, by simp [e3]⟩
          · exact ⟨j, l', e1, get_pre (by rw [List.getElem?_set_ne c]; exact e2), e3⟩
        · exact ⟨i, _, hv, get_pre hgi, by simp⟩
    · rw [st_set_mid]
      have k1 : (d.st (R ++ [.dkt (es ++ [(skey (mkS ms n) (gI plan (ar + n)), .ref (R.length + 1 + G.length + 2))])] ++ (G ++ [.lst []])))[R.length + 1 + G.length + 2]? = some (.lst []) := by rw [st_G]; simp
      have k2 : (d.st (R ++ [.dkt (es ++ [(skey (mkS ms n) (gI plan (ar + n)), .ref (R.length + 1 + G.length + 2))])] ++ (G ++ [.lst []])))[bt + 2]? = some (.lst (tl.map .int)) := get_RG hbt
      mul_fits
      rw [set_G, List.set_append_right _ _ (Nat.le_refl _), Nat.sub_self]
      refine ⟨_, .inl rfl, _, es ++ [(skey (mkS ms n) (gI plan (ar + n)), .ref (R.length + 1 + G.length + 2))], G ++ [.lst ([gI tl (ar + n)].map .int)], _, _, _, rfl, .inr rfl, rfl, by simp; omega, fun q hq => ?_, fun key v z => ?_, fun q hq => ?_⟩
      · rcases List.mem_append.mp hq with hq | hq
        · obtain ⟨l', e1, e2⟩ := h2 q hq
          exact ⟨l', e1, by omega⟩
        · rw [List.mem_singleton.mp hq]
          exact ⟨[_], rfl, by simp⟩
      · rw [gT_app] at z
        cases e : gT es key with
        | some v' =>
          rw [e] at z
          cases z
          obtain ⟨j, hj, e⟩ := h3 _ _ e
          exact ⟨j, by simp; omega, e⟩
        | none =>
          rw [e] at z
          have z : (if skey (mkS ms n) (gI plan (ar + n)) = key then some (D.ref (R.length + 1 + G.length + 2)) else none) = some v := z
          split at z
          · cases z
            exact ⟨G.length, by simp, rfl⟩
          · cases z
      · rcases Nat.lt_succ_iff_lt_or_eq.mp hq with hq | rfl
        · obtain ⟨j, l', e1, e2, e3⟩ := h4 q hq
          exact ⟨j, l', by rw [gT_app, e1]; rfl, get_pre e2, e3⟩
        · exact ⟨G.length, [gI tl (ar + q)], by rw [gT_app, hv]; simp [gT], by simp, by simp⟩
  · rintro ρ S' ⟨o, es, G, o8, o9, o10, rfl, tb, rfl, h1, h2, h3, h4⟩
    refine ⟨trivial, ?_⟩
    rw [Nat.zero_add] at h1 h2 h4
    mul_fits
    simp only [b__law_planned_spots_2]
    mul_fits
    rw [app_G, len_G]
    have hbd := get_RG (d := d) (o := o) (G := G ++ [Ob.lst []]) hb
    mul_fits
    refine loopS_e (enc := D.str) (fun rest ρ S' => ∃ (sp : List PSp) (d' : DS) (g2 : Sto) (o8 o9 o10 o12 o13 o14 o15 : Option D), S' = d'.st (R ++ [o] ++ (G ++ [.lst (sp.map PSp.d)] ++ g2)) ∧ ρ = [some (.ref 1), some (pieceD ar ms pt), some (intsD plan), some (.ref (bt + 2)), some (natD tg), some (natD c), some (.ref (b + 2)), some (.ref (R.length + 2)), o8, o9, o10, some (.ref (R.length + 1 + G.length + 2)), o12, o13, o14, o15] ∧
      (sp.length + 3 * rest.length ≤ 3 * xs.length ∧ (∀ s ∈ rest, s ∈ xs) ∧ ∀ t ∈ sp, t.mark ∈ xs) ∧ (∀ t ∈ sp, ∀ q, q < ms.length → t.mark = mkS ms q → t.tag = gI plan (ar + q) → gI tl (ar + q) ∈ t.tal) ∧
      ∀ s ∈ xs, s ∈ rest ∨ ∀ q, q < ms.length → mkS ms q = s → ∃ t ∈ sp, t.mark = s ∧ t.tag = gI plan (ar + q)) ?_ ?_ _ _ _ ⟨[], d, [], _, _, _, _, _, _, _, by simp, rfl, ⟨by simp, fun _ z => z, by simp⟩, by simp, fun s hs => .inl hs⟩
    · rintro s rest ρ S' ⟨sp0, d0, g0, o8, o9, o10, o12, o13, o14, o15, rfl, rfl, f1, f2, f3⟩
      refine ⟨get_RG hb, ?_⟩
      obtain ⟨f1, f00, f01⟩ := f1
      rw [List.length_cons] at f1
      simp only [b__law_planned_spots_3]
      mul_fits
      rw [rgD_0]
      refine loop_rg (a := 0) (n := tg) (fun x ρ S' => ∃ (sp : List PSp) (d' : DS) (g2 : Sto) (o13 o14 o15 : Option D), S' = d'.st (R ++ [o] ++ (G ++ [.lst (sp.map PSp.d)] ++ g2)) ∧ ρ = [some (.ref 1), some (pieceD ar ms pt), some (intsD plan), some (.ref (bt + 2)), some (natD tg), some (natD c), some (.ref (b + 2)), some (.ref (R.length + 2)), o8, o9, o10, some (.ref (R.length + 1 + G.length + 2)), some (.str s), o13, o14, o15] ∧
        (sp.length ≤ sp0.length + x ∧ ∀ t ∈ sp, t.mark ∈ xs) ∧ (∀ t ∈ sp, ∀ q, q < ms.length → t.mark = mkS ms q → t.tag = gI plan (ar + q) → gI tl (ar + q) ∈ t.tal) ∧ (∀ t ∈ sp0, t ∈ sp) ∧
        ∀ q, q < ms.length → mkS ms q = s → gI plan (ar + q) < (x : Int) → ∃ t ∈ sp, t.mark = s ∧ t.tag = gI plan (ar + q)) ?_ ?_ _ _ ⟨sp0, d0, g0, _, _, _, rfl, rfl, ⟨by omega, f01⟩, f2, fun _ z => z, fun q hq _ z => by have := (gI_rg hr (show ar + q < plan.length by omega)).1; omega⟩
      · rintro x ρ S' x0 x1 ⟨sp, d1, g1, o13, o14, o15, rfl, rfl, e1, e2, e3, e4⟩
        refine ⟨trivial, ?_⟩
        obtain ⟨e1, e11⟩ := e1
        simp only [b__law_planned_spots_4]
        -- what is due
        refine PQ.w_scons (PQ.w_set (W_mono (Q := fun v S1 => ∃ (r : Nat) (l : List Int) (g2 : Sto), v = .ref r ∧ S1 = d1.st (R ++ [o] ++ (G ++ [.lst (sp.map PSp.d)] ++ g2)) ∧ (∀ (d' : DS) (sp' : List PSp) (g3 : Sto), (d'.st (R ++ [o] ++ (G ++ [.lst (sp'.map PSp.d)] ++ (g2 ++ g3))))[r]? = some (.lst (l.map .int))) ∧ l.length ≤ 60 ∧
          ∀ q, q < ms.length → mkS ms q = s → gI plan (ar + q) = (x : Int) → gI tl (ar + q) ∈ l) ?_ ?_))
        · mul_fits
          refine tab_k (tb.tab st_mid) ?_
          mul_fits
          rw [app_G, len_G]
          refine tab_get (t := skey s x) (tb.tab st_mid) skey_ok ?_
          rcases e : gT es (skey s x) with _ | v
          · refine ⟨R.length + 1 + (G ++ [Ob.lst (sp.map PSp.d)] ++ g1).length + 2, [], g1 ++ [Ob.lst []], rfl, by simp, fun d' sp' g3 => ?_, by simp, fun q hq z1 z2 => ?_⟩
            · rw [show R.length + 1 + (G ++ [Ob.lst (sp.map PSp.d)] ++ g1).length + 2 = R.length + 1 + (G ++ [Ob.lst (sp'.map PSp.d)] ++ g1).length + 2 by simp, st_G]
              simp
            · obtain ⟨i, l, z3, _⟩ := h4 q hq
              rw [z1, z2, e] at z3
              cases z3
          · obtain ⟨i, hi, rfl⟩ := h3 _ _ e
            obtain ⟨l, hl, hll⟩ := h2 G[i] (List.getElem_mem hi)
            have hg : G[i]? = some (.lst (l.map .int)) := by rw [List.getElem?_eq_getElem hi, hl]
            refine ⟨R.length + 1 + i + 2, l, g1 ++ [Ob.lst []], rfl, by simp, fun d' sp' g3 => ?_, by omega, fun q hq z1 z2 => ?_⟩
            · rw [st_G]
              exact get_pre (get_pre hg)
            · obtain ⟨j, l', z3, z4, z5⟩ := h4 q hq
              rw [z1, z2, e] at z3
              have : i = j := by
                injection z3 with z3
                injection z3 with z3
                omega
              subst this
              rw [hg] at z4
              have e2 : l.map D.int = l'.map D.int := by injection z4 with e2; injection e2
              have e2 : l = l' := by
                have := congrArg intsOf e2
                rw [PQ.ints_map, PQ.ints_map] at this
                injection this
              rw [e2]
              exact z5
        rintro v S1 ⟨r, l, g2, rfl, rfl, kr, kl, kq⟩
        have kr0 := fun (d' : DS) => by have := kr d' sp []; rw [List.append_nil] at this; exact this
        have kd1 := kr0 d1
        refine PQ.w_nx ?_
        -- whether there is a row
        refine PQ.w_scons (PQ.w_ite (W_mono (Q := fun cc S1 => ∃ d3 : DS, S1 = d3.st (R ++ [o] ++ (G ++ [.lst (sp.map PSp.d)] ++ g2)) ∧ (l ≠ [] → cc = true)) ?_ ?_))
        · mul_fits
          refine w_ifd (fun cc => ?_) fun cc => ?_
          · mul_fits
            exact fun _ => rfl
          · mul_fits
            refine draw_ (by decide) (by decide) fun z d3 z0 z1 => ?_
            mul_fits
            refine fun z => absurd ?_ cc
            rw [List.length_map]
            have := List.length_pos_iff.mpr z
            omega
        rintro cc S1 ⟨d3, rfl, hcc⟩
        refine w_if (fun c1 => ?_) fun c1 => ?_
        rotate_left
        · mul_fits
          refine ⟨_, .inl rfl, sp, d3, g2, _, _, _, rfl, rfl, ⟨by omega, e11⟩, e2, e3, fun q hq z1 z2 => ?_⟩
          rcases Int.lt_or_eq_of_le (show gI plan (ar + q) ≤ (x : Int) by omega) with z2 | z2
          · exact e4 q hq z1 z2
          · have := kq q hq z1 z2
            rw [hcc (fun z => by rw [z] at this; cases this)] at c1
            cases c1
        -- what else may stand there
        refine PQ.w_scons (PQ.w_set (W_mono (Q := fun v S1 => ∃ (d4 : DS) (r2 : Nat) (l2 : List Int) (g3 : Sto), v = .ref r2 ∧ S1 = d4.st (R ++ [o] ++ (G ++ [.lst (sp.map PSp.d)] ++ (g2 ++ g3))) ∧ (∀ (d' : DS), (d'.st (R ++ [o] ++ (G ++ [.lst (sp.map PSp.d)] ++ (g2 ++ g3))))[r2]? = some (.lst (l2.map .int))) ∧ l2.length ≤ 3) ?_ ?_))
        · refine PQ.w_ife (W_mono (Q := fun cc S1 => ∃ d4 : DS, S1 = d4.st (R ++ [o] ++ (G ++ [.lst (sp.map PSp.d)] ++ g2))) ?_ ?_)
          · have kd3 := kr0 d3
            mul_fits
            refine w_ifd (fun cc => ?_) fun cc => ?_
            · mul_fits
              exact ⟨d3, rfl⟩
            · mul_fits
              refine draw_ (by decide) (by decide) fun z d4 z0 z1 => ?_
              mul_fits
              exact ⟨d4, rfl⟩
          rintro cc S1 ⟨d4, rfl⟩
          have fin : ∀ (d5 : DS) (l2 : List Int), l2.length ≤ 3 → ∃ (d4 : DS) (r2 : Nat) (l3 : List Int) (g3 : Sto), D.ref (d5.st (R ++ [o] ++ (G ++ [.lst (sp.map PSp.d)] ++ g2))).length = .ref r2 ∧ d5.st (R ++ [o] ++ (G ++ [.lst (sp.map PSp.d)] ++ g2)) ++ [.lst (l2.map .int)] = d4.st (R ++ [o] ++ (G ++ [.lst (sp.map PSp.d)] ++ (g2 ++ g3))) ∧ (∀ (d' : DS), (d'.st (R ++ [o] ++ (G ++ [.lst (sp.map PSp.d)] ++ (g2 ++ g3))))[r2]? = some (.lst (l3.map .int))) ∧ l3.length ≤ 3 := by
            intro d5 l2 hl2
            refine ⟨d5, _, l2, [.lst (l2.map .int)], rfl, ?_, fun d' => ?_, hl2⟩
            · rw [app_G]
              simp
            · rw [len_G, st_G]
              simp
          refine w_if (fun c2 => ?_) fun c2 => ?_
          · mul_fits
            refine subset_w hc fun l2 d5 hl2 => ?_
            mul_fits
            exact fin d5 l2 hl2
          · mul_fits
            exact fin d4 [] (by simp)
        rintro v S1 ⟨d4, r2, l2, g3, rfl, rfl, kr2, kl2⟩
        have kd4 := kr2 d4
        have kr4 := kr d4 sp g3
        refine PQ.w_nx ?_
        have kR : ∀ (d' : DS) (g' : Sto), (d'.st (R ++ [o] ++ (G ++ [.lst (sp.map PSp.d)] ++ g')))[R.length + 1 + G.length + 2]? = some (.lst (sp.map PSp.d)) := fun d' g' => by rw [st_G]; simp
        have kR4 := kR d4 (g2 ++ g3)
        mul_fits
        refine worth_w fun wv d5 => ?_
        have kr5 := kr d5 sp g3
        have kd5 := kr2 d5
        mul_fits
        refine v_addL kr5 kd5 (le64 (by simp; omega)) ?_
        refine w_mayL (get_end _ _) ?_
        have e5 : l.map D.int ++ l2.map D.int = (l ++ l2).map D.int := by simp
        rw [e5]
        refine w_may (PQ.ints_map _) ?_
        refine w_ask (by simp; omega) ?_
        rw [app_G]
        have kR5 : (d5.st (R ++ [o] ++ (G ++ [.lst (sp.map PSp.d)] ++ (g2 ++ g3) ++ [.lst ((l ++ l2).map .int)])))[R.length + 1 + G.length + 2]? = some (.lst (sp.map PSp.d)) := by rw [st_G]; simp
        have kls : (sp.map PSp.d).length < sizeLine := Nat.lt_of_lt_of_le (show (sp.map PSp.d).length < 1000 by have := hx.2.1; simp; omega) (le_size (by decide))
        mul_fits
        rw [set_G]
        refine ⟨_, .inl rfl, sp ++ [⟨s, x, wv, sortU (l ++ l2)⟩], d5, g2 ++ g3 ++ [.lst ((l ++ l2).map .int)], _, _, _, by simp [intsD], rfl, ⟨by simp; omega, fun t ht => by
          rcases List.mem_append.mp ht with ht | ht
          · exact e11 t ht
          · rw [List.mem_singleton.mp ht]; exact f00 s (by simp)⟩, fun t ht q hq z1 z2 => ?_, fun t ht => by simp [e3 t ht], fun q hq z1 z2 => ?_⟩
        · rcases List.mem_append.mp ht with ht | ht
          · exact e2 t ht q hq z1 z2
          · rw [List.mem_singleton] at ht
            subst ht
            exact mem_sortU.mpr (List.mem_append_left _ (kq q hq z1.symm z2.symm))
        · rcases Int.lt_or_eq_of_le (show gI plan (ar + q) ≤ (x : Int) by omega) with z2 | z2
          · obtain ⟨t, t1, t2⟩ := e4 q hq z1 z2
            exact ⟨t, by simp [t1], t2⟩
          · exact ⟨⟨s, x, wv, sortU (l ++ l2)⟩, by simp, rfl, z2.symm⟩
      · rintro ρ S' ⟨sp, d1, g1, o13, o14, o15, rfl, rfl, e1, e2, e3, e4⟩
        refine ⟨trivial, ?_⟩
        obtain ⟨e1, e11⟩ := e1
        rw [Nat.zero_add] at e1 e4
        mul_fits
        refine ⟨_, .inl rfl, sp, d1, g1, _, _, _, _, _, _, _, rfl, rfl, ⟨by omega, fun s hs => f00 s (by simp [hs]), e11⟩, e2, fun s' hs' => ?_⟩
        rcases f3 s' hs' with z | z
        · rcases List.mem_cons.mp z with rfl | z
          · exact .inr fun q hq z1 => e4 q hq z1 (gI_rg hr (show ar + q < plan.length by omega)).2
          · exact .inl z
        · exact .inr fun q hq z1 => by
            obtain ⟨t, t1, t2⟩ := z q hq z1
            exact ⟨t, e3 t t1, t2⟩
    · rintro ρ S' ⟨sp, d', g2, o8, o9, o10, o12, o13, o14, o15, rfl, rfl, f1, f2, f3⟩
      refine ⟨get_RG hb, ?_⟩
      mul_fits
      simp only [b__law_planned_spots_5]
      have kl : (d'.st (R ++ [o] ++ (G ++ [.lst (sp.map PSp.d)] ++ g2)))[R.length + 1 + G.length + 2]? = some (.lst (sp.map PSp.d)) := by rw [st_G]; simp
      mul_fits
      rw [List.append_assoc R]
      refine gc_st2 ((pd_psps sp).b _) (h sp d' (by have := hx.2.1; have f1 := f1.1; simp at f1; omega) f1.2.2 fun q hq => ⟨?_, fun t ht z1 z2 => f2 t ht q hq z1 z2⟩)
      exact (f3 _ (hms q hq)).resolve_left (by simp) q hq rfl
end
/-! ### k24: the planned world -/
theorem tots_ex {ti : List PTi} {tags : List Int} : ∀ (ps : List Pt) (l : List Int), (∀ p ∈ ps, tieRow ti p.strand (gI tags p.one) (gI tags p.other) ≠ none) → ∃ t, tots ti tags ps l = some t
  | [], l, _ => ⟨l, rfl⟩
  | p :: ps, l, h => by
    rw [tots]
    rcases e : tieRow ti p.strand (gI tags p.one) (gI tags p.other) with _ | ⟨a, b, c⟩
    · exact absurd e (h p (by simp))
    · exact tots_ex ps _ fun q hq => h q (by simp [hq])
structure Pnd (tg cap : Nat) (fold : Str) (sp : List PSp) (ti : List PTi) (ar : Nat) (ms : Str) (pt : List Pt) (plan : List Int) : Prop where
  tg1 : 1 ≤ tg
  tg3 : tg ≤ 3
  c2 : cap ≤ 2
  ar3 : ar ≤ 3
  m60 : ms.length ≤ 60
  ptl : pt.length ≤ 200
  pr : ∀ p ∈ pt, p.one < ar + ms.length ∧ p.other < ar + ms.length
  pl : plan.length = ar + ms.length
  pg : ∀ t ∈ plan, 0 ≤ t ∧ t < (tg : Int)
  tr : ∀ t ∈ ti, 0 ≤ t.one ∧ 0 ≤ t.other
  sk : ∀ p ∈ pt, PyData.strOk p.strand = true
  tk : ∀ t ∈ ti, PyData.strOk t.strand = true
  pk : ∀ t ∈ sp, PyData.strOk t.mark = true
  mks : ∀ q, q < ms.length → PyData.strOk (mkS ms q) = true
  til : ti.length ≤ 300
  spl : sp.length ≤ 300
  cv : ∀ p ∈ pt, Cvr ti p.strand (loI (gI plan p.one) (gI plan p.other)) (hiI (gI plan p.one) (gI plan p.other))
  cs : ∀ t, tots ti plan pt (List.replicate (ar + ms.length) 0) = some t → ∀ q, q < ms.length → Cvs sp (mkS ms q) (gI plan (ar + q)) (gI (t.map (tly cap fold)) (ar + q))
theorem ltr_ok {xs : List Str} (h : Ltr xs) {s : Str} (hs : s ∈ xs) : PyData.strOk s = true := by
  obtain ⟨c, hc, rfl⟩ := h.2.2 s hs
  exact stok (cs := [c]) fun x hx => by rw [List.mem_singleton.mp hx]; exact hc.lt
section
variable {tg cap : Nat} {fold : Str} {sp : List PSp} {ti : List PTi} {ar : Nat} {ms : Str} {pt : List Pt} {plan : List Int}
theorem Pnd.tots (x : Pnd tg cap fold sp ti ar ms pt plan) : ∃ t, tots ti plan pt (List.replicate (ar + ms.length) 0) = some t := tots_ex pt _ fun p hp => tieRow_cov (x.cv p hp)
theorem Pnd.lot (x : Pnd tg cap fold sp ti ar ms pt plan) : lotB ti sp cap fold ar ms pt plan = true := by
  obtain ⟨t, e⟩ := x.tots
  unfold lotB
  rw [e]
  show (List.range ms.length).all _ = true
  rw [List.all_eq_true]
  intro q hq
  obtain ⟨w, l, e1, e2⟩ := spotRow_cov (x.cs t e q (List.mem_range.mp hq))
  unfold spOk
  rw [e1]
  exact decide_eq_true e2
theorem Pnd.wok (x : Pnd tg cap fold sp ti ar ms pt plan) : Wok tg cap ti ar ms pt := ⟨by omega, by have := x.c2; omega, by have := x.tg3; omega, by have := x.ar3; have := x.m60; omega, x.pr, x.tr⟩
end
section
variable {k : Nat} {R : Sto} {Q : D → Sto → Prop} {d : DS} {m : Nat}
theorem planned_w {c : Bool} (h : ∀ (w : Str) (tg cap : Nat) (fold : Str) (sp : List PSp) (ti : List PTi) (ar : Nat) (ms : Str) (pt : List Pt) (plan : List Int) (b : Nat) (g : Sto) (d' : DS), Pnd tg cap fold sp ti ar ms pt plan →
      (R ++ g)[b]? = some (.lst [patD (.str w) tg cap (.str fold) sp ti, pieceD ar ms pt, intsD plan]) → Q (.ref (b + 2)) (d'.st (R ++ g))) : W (orc T (k + 5) n__law_planned [.ref 1, .bl c] (d.st R)) Q := by
  refine orc_w (ρ := [some (.ref 1), some (.bl c), none, none, none, none, none, none, none, none, none, none, none, none, none, none, none]) rfl rfl rfl ?_
  show W (evSs _ b__law_planned _ _) _
  simp only [b__law_planned]
  refine PQ.w_scons (PQ.w_set ?_)
  mul_fits
  refine draw_ (by decide) (by decide) fun ar d1 a0 a1 => ?_
  obtain ⟨ar, rfl⟩ := Int.eq_ofNat_of_zero_le a0
  refine PQ.w_nx ?_
  refine PQ.w_scons (PQ.w_set (W_mono (Q := fun v S1 => ∃ (n : Nat) (g : Sto) (d' : DS), v = natD n ∧ n ≤ 60 ∧ S1 = d'.st (R ++ g)) ?_ ?_))
  · mul_fits
    refine w_if (fun cc => ?_) fun cc => ?_
    · mul_fits
      refine draw_ (by decide) (by decide) fun y d2 y0 y1 => ?_
      mul_fits
      simp only [st_len, st_app]
      refine pick_w (b := R.length) (by simp) (by simp) (get_end _ _) fun x hx d3 => ?_
      obtain ⟨n, rfl, hn⟩ : ∃ n : Nat, x = natD n ∧ n ≤ 60 := by
        simp at hx
        rcases hx with rfl | rfl
        · exact ⟨60, rfl, by omega⟩
        · exact ⟨y.toNat, by show D.int y = D.int (y.toNat : Int); rw [Int.toNat_of_nonneg y0], by omega⟩
      exact ⟨n, _, d3, rfl, hn, rfl⟩
    · mul_fits
      refine draw_ (by decide) (by decide) fun y d2 y0 y1 => ?_
      exact ⟨y.toNat, [], d2, by show D.int y = D.int (y.toNat : Int); rw [Int.toNat_of_nonneg y0], by omega, by simp⟩
  rintro v S1 ⟨inner, g1, d2, rfl, hin, rfl⟩
  refine PQ.w_nx ?_
  refine PQ.w_scons (PQ.w_set (W_mono (Q := fun v S1 => ∃ (n : Nat) (g : Sto) (d' : DS), v = natD n ∧ n ≤ 200 ∧ S1 = d'.st (R ++ g)) ?_ ?_))
  · mul_fits
    refine w_if (fun cc => ?_) fun cc => ?_
    · mul_fits
      refine draw_ (by decide) (by decide) fun y d3 y0 y1 => ?_
      mul_fits
      simp only [st_len, st_app]
      refine pick_w (b := (R ++ g1).length) (by simp) (by simp) (get_end _ _) fun x hx d4 => ?_
      obtain ⟨n, rfl, hn⟩ : ∃ n : Nat, x = natD n ∧ n ≤ 200 := by
        simp at hx
        rcases hx with rfl | rfl
        · exact ⟨200, rfl, by omega⟩
        · exact ⟨y.toNat, by show D.int y = D.int (y.toNat : Int); rw [Int.toNat_of_nonneg y0], by omega⟩
      exact ⟨n, _, d4, rfl, hn, by rw [List.append_assoc]⟩
    · mul_fits
      refine draw_ (by decide) (by decide) fun y d3 y0 y1 => ?_
      exact ⟨y.toNat, g1, d3, by show D.int y = D.int (y.toNat : Int); rw [Int.toNat_of_nonneg y0], by omega, rfl⟩
  rintro v S1 ⟨many, g2, d3, rfl, hmany, rfl⟩
  refine PQ.w_nx ?_
  refine PQ.w_scons (PQ.w_set (W_mono (Q := fun v S1 => ∃ (xs : List Str) (b : Nat) (g : Sto) (d' : DS), v = .ref (b + 2) ∧ Ltr xs ∧ (R ++ g)[b]? = some (.lst (xs.map D.str)) ∧ S1 = d'.st (R ++ g)) ?_ ?_))
  · have fin : ∀ m : Nat, 0 < m → m ≤ 25 → W (orc T (k + 4) n__law_menu [.ref 1, natD m] (d3.st (R ++ g2))) (fun v S1 => ∃ (xs : List Str) (b : Nat) (g : Sto) (d' : DS), v = .ref (b + 2) ∧ Ltr xs ∧ (R ++ g)[b]? = some (.lst (xs.map D.str)) ∧ S1 = d'.st (R ++ g)) := fun m m0 m1 =>
      menu_w m0 m1 fun xs g d' hx _ => ⟨xs, (R ++ g2).length + g.length, g2 ++ (g ++ [.lst (xs.map D.str)]), d', rfl, hx, by
        rw [← List.append_assoc, ← List.append_assoc, show (R ++ g2).length + g.length = (R ++ g2 ++ g).length by simp; omega]
        exact get_end _ _, by simp only [List.append_assoc]⟩
    mul_fits
    refine w_if (fun cc => ?_) fun cc => ?_
    · mul_fits
      exact fin 20 (by decide) (by decide)
    · mul_fits
      exact fin 3 (by decide) (by decide)
  rintro v S1 ⟨xm, b5, g3, d4, rfl, hxm, hb5, rfl⟩
  refine PQ.w_nx ?_
  refine PQ.w_scons (PQ.w_set (W_mono (Q := fun v S1 => ∃ (xs : List Str) (b : Nat) (g : Sto) (d' : DS), v = .ref (b + 2) ∧ Ltr xs ∧ (R ++ (g3 ++ g))[b]? = some (.lst (xs.map D.str)) ∧ S1 = d'.st (R ++ (g3 ++ g))) ?_ ?_))
  · have fin : ∀ m : Nat, 0 < m → m ≤ 25 → W (orc T (k + 4) n__law_menu [.ref 1, natD m] (d4.st (R ++ g3))) (fun v S1 => ∃ (xs : List Str) (b : Nat) (g : Sto) (d' : DS), v = .ref (b + 2) ∧ Ltr xs ∧ (R ++ (g3 ++ g))[b]? = some (.lst (xs.map D.str)) ∧ S1 = d'.st (R ++ (g3 ++ g))) := fun m m0 m1 =>
      menu_w m0 m1 fun xs g d' hx _ => ⟨xs, (R ++ g3).length + g.length, (g ++ [.lst (xs.map D.str)]), d', rfl, hx, by
        rw [← List.append_assoc, ← List.append_assoc, show (R ++ g3).length + g.length = (R ++ g3 ++ g).length by simp; omega]
        exact get_end _ _, by simp only [List.append_assoc]⟩
    mul_fits
    refine w_if (fun cc => ?_) fun cc => ?_
    · mul_fits
      exact fin 10 (by decide) (by decide)
    · mul_fits
      exact fin 3 (by decide) (by decide)
  rintro v S1 ⟨xt, b6, g4, d5, rfl, hxt, hb6, rfl⟩
  have hb5 : (R ++ (g3 ++ g4))[b5]? = some (.lst (xm.map D.str)) := by rw [← List.append_assoc]; exact get_pre hb5
  generalize hR : R ++ (g3 ++ g4) = R1 at hb5 hb6 ⊢
  mul_fits
  refine marksS_w hin hxm hb5 fun cs d6 cl cm => ?_
  mul_fits
  rw [← Int.natCast_add]
  refine tied_w (by omega) hmany hxt hb6 fun pt d7 hpt ptl => ?_
  mul_fits
  refine draw_ (by decide) (by decide) fun tg d8 tg0 tg1 => ?_
  mul_fits
  refine draw_ (by decide) (by decide) fun cap d9 cap0 cap1 => ?_
  obtain ⟨cap, rfl⟩ := Int.eq_ofNat_of_zero_le cap0
  obtain ⟨tg, rfl⟩ := Int.eq_ofNat_of_zero_le tg0
  have etg : (1 : Int) + (tg : Int) = ((tg + 1 : Nat) : Int) := by omega
  rw [etg]
  mul_fits
  refine letter_w fun x hx d10 => ?_
  obtain ⟨cx, hcx, rfl⟩ := hx
  mul_fits
  refine v_addS (a := ⟨#[cx]⟩) (by show 1 + 3 ≤ sizeLine; exact le_size (by decide)) ?_
  mul_fits
  simp only [st_len, st_app]
  refine pick_w (b := R1.length) (by simp) (by simp) (get_end _ _) fun fo hfo d11 => ?_
  obtain ⟨fold, rfl⟩ : ∃ f : Str, fo = .str f := by
    simp at hfo
    rcases hfo with rfl | rfl <;> exact ⟨_, rfl⟩
  have hb5 : (R1 ++ [Ob.lst [D.str "cap", D.str "mod"]])[b5]? = some (.lst (xm.map D.str)) := get_pre hb5
  have hb6 : (R1 ++ [Ob.lst [D.str "cap", D.str "mod"]])[b6]? = some (.lst (xt.map D.str)) := get_pre hb6
  generalize hR2 : R1 ++ [Ob.lst [D.str "cap", D.str "mod"]] = R2 at hb5 hb6 ⊢
  have eR2 : ∃ g5, R2 = R ++ g5 := ⟨g3 ++ g4 ++ [Ob.lst [D.str "cap", D.str "mod"]], by rw [← hR2, ← hR]; simp⟩
  clear hR hR2
  generalize hw : ((⟨#[cx]⟩ : Str) ++ "lot") = w
  mul_fits
  rw [← Int.natCast_add, rgD_0]
  have hsm : ar + inner ≤ 64 := by omega
  refine ⟨le64 (by simp; omega), ?_⟩
  refine loopQ_w (fun ds r S' => ∃ (l : List Int) (d' : DS), r = l.map .int ∧ S' = d'.st R2 ∧ l.length + ds.length = ar + inner ∧ ∀ t ∈ l, 0 ≤ t ∧ t < ((tg + 1 : Nat) : Int)) ?_ ?_ _ _ ⟨[], d11, rfl, rfl, by simp, by simp⟩
  · rintro e ds r S' ⟨l, d12, rfl, rfl, l1, l2⟩
    refine ⟨trivial, ?_⟩
    mul_fits
    refine draw_ (by omega) (by omega) fun y d13 y0 y1 => ?_
    mul_fits
    refine ⟨l ++ [y], d13, by simp, rfl, by simp at l1 ⊢; omega, fun t ht => ?_⟩
    rcases List.mem_append.mp ht with ht | ht
    · exact l2 t ht
    · rw [List.mem_singleton.mp ht]
      exact ⟨y0, by omega⟩
  rintro r S' ⟨plan, d12, rfl, rfl, pl1, pl2⟩
  refine ⟨trivial, ?_⟩
  have hms : (stS cs).length = inner := by rw [st_length]; exact cl
  have pl1 : plan.length = ar + (stS cs).length := by rw [hms]; simpa using pl1
  have hpr : ∀ p ∈ pt, p.one < plan.length ∧ p.other < plan.length ∧ p.strand ∈ xt := fun p hp => by
    rw [pl1, hms]
    exact hpt p hp
  mul_fits
  refine planned_ties_w hxt hb6 (by omega) (by omega) pl2 hpr (by omega) fun ti d13 ti1 ti2 ti3 => ?_
  mul_fits
  obtain ⟨t, et⟩ := tots_ex pt (List.replicate (ar + inner) 0) fun p hp => tieRow_cov (ti3 p hp)
  have ht : plan.length = ar + inner := by rw [pl1, hms]
  refine lwholes_w (w := .str w) (tg := tg + 1) (cap := cap) (fold := .str fold) (sp := []) hsm ht (fun p hp => ⟨(hpr p hp).1, (hpr p hp).2.1⟩) (fun e => by rw [et] at e; cases e) fun t' e => ?_
  rw [et] at e
  cases e
  have tl := tots_len _ _ _ et
  rw [List.length_replicate] at tl
  mul_fits
  have kk := get_end (d13.st R2) (Ob.lst (t.map D.int))
  mul_fits
  refine ⟨le64 (by simp; omega), ?_⟩
  refine loopQ_m (enc := D.int) (g := fun t => .int (tly cap fold t)) (I := fun S' => S' = d13.st R2 ++ [.lst (t.map .int)]) t (fun x _ S' e => ?_) (fun S' e => ?_) _ rfl
  · subst e
    refine ⟨get_end _ _, ?_⟩
    mul_fits
    refine ltally_w (by omega) ?_
    mul_fits
    exact ⟨rfl, rfl⟩
  subst e
  refine ⟨get_end _ _, ?_⟩
  have e5 : (t.map fun t => D.int (tly cap fold t)) = (t.map (tly cap fold)).map D.int := by rw [List.map_map]; rfl
  rw [e5]
  mul_fits
  simp only [st_len, st_app]
  have cm' : ∀ q, q < (stS cs).length → mkS (stS cs) q ∈ xm := fun q hq => by
    rw [hms] at hq
    have : mkS (stS cs) q = ⟨#[cs[q]'(by omega)]⟩ := by
      show (⟨#[cs.toArray.toList.getD q 0]⟩ : Str) = _
      rw [List.getD_eq_getElem?_getD]
      simp [show q < cs.length by omega]
    rw [this]
    exact cm _ (List.getElem_mem _)
  refine planned_spots_w (bt := (R2 ++ [Ob.lst (t.map D.int)]).length) (tl := t.map (tly cap fold)) hxm (get_pre (get_pre hb5)) (get_end _ _) (by omega) (by omega) pl1 (by rw [List.length_map, hms]; exact tl) (by omega) pl2 cm' fun sp d14 sp1 sp0 sp2 => ?_
  mul_fits
  simp only [st_len, st_app]
  obtain ⟨g5, rfl⟩ := eR2
  rw [gc_out (by simp [below, st_len])]
  refine w_ok ?_
  have := h w (tg + 1) cap fold sp ti ar (stS cs) pt plan (R ++ g5 ++ [Ob.lst (t.map D.int)] ++ [Ob.lst ((t.map (tly cap fold)).map D.int)]).length (g5 ++ [Ob.lst (t.map D.int)] ++ [Ob.lst ((t.map (tly cap fold)).map D.int)] ++ [.lst [patD (.str w) (tg + 1) cap (.str fold) sp ti, pieceD ar (stS cs) pt, intsD plan]]) d14
    ⟨by omega, by omega, by omega, by omega, by omega, ptl, fun p hp => by rw [hms]; exact ⟨(hpt p hp).1, (hpt p hp).2.1⟩, pl1, pl2, fun t ht => ⟨(ti1 t ht).1, (ti1 t ht).2.1⟩, fun p hp => ltr_ok hxt (hpt p hp).2.2, fun t ht => ltr_ok hxt (ti1 t ht).2.2, fun t ht => ltr_ok hxm (sp0 t ht), fun q hq => ltr_ok hxm (cm' q hq), ti2, sp1, ti3, fun t' e' q hq => by
      rw [hms, et] at e'
      cases e'
      exact sp2 q hq⟩ (by simp only [← List.append_assoc]; exact get_end _ _)
  simp only [← List.append_assoc] at this
  exact this
end
/-! ### k24: where a row stands -/
section
variable {S : Sto} {a : Nat} {ds : List D} {y : D}
theorem ix_in (k : S[a]? = some (.lst ds)) (h : ∀ x ∈ ds, okD x ∧ depD x ≤ 100) (hy : y ∈ ds) : ∃ j, j < ds.length ∧ ixD (.ref a) y S = some j := by
  obtain ⟨ps, h1, h2, h3⟩ := toPsW_ok ds (okDs_iff.mpr fun x hx => (h x hx).1)
  have e : toP S (.ref a) = some (.list ps) := by
    show refP S 8 a = _
    unfold refP
    simp only [k, h1, Option.map_some]
  obtain ⟨p, p1, p2, p3⟩ := toPW_ok y (h y hy).1
  have e2 : toP S y = some p := p1 _
  have hd : depDs ds ≤ 100 := depDs_le.mpr fun x hx => (h x hx).2
  have s1 : shp (.list ps) = true := by
    unfold shp
    rw [PyData.canLay0, h2, PyData.depth, Bool.true_and]
    exact decide_eq_true (by omega)
  have s2 : shp p = true := by
    unfold shp
    rw [p2, Bool.true_and]
    exact decide_eq_true (by have := (h y hy).2; omega)
  have hm : ∀ (ds : List D) (ps : List PyData), toPsW (fun _ => none) ds = some ps → y ∈ ds → ps.length = ds.length ∧ p ∈ ps := by
    intro ds
    induction ds with
    | nil => intro ps _ h; cases h
    | cons d ds ih =>
      intro ps e hy
      rw [toPsW] at e
      have lens : ∀ (ds : List D) (ps : List PyData), toPsW (fun _ => none) ds = some ps → ps.length = ds.length := by
        intro ds
        induction ds with
        | nil => intro ps e; cases e; rfl
        | cons d ds ih =>
          intro ps e
          rw [toPsW] at e
          split at e
          · rename_i p1 ps1 q1 q2
            cases e
            rw [List.length_cons, List.length_cons, ih _ q2]
          · cases e
      split at e
      · rename_i p0 ps0 q1 q2
        cases e
        refine ⟨by rw [List.length_cons, List.length_cons, lens _ _ q2], ?_⟩
        rcases List.mem_cons.mp hy with rfl | hy
        · rw [p1] at q1
          cases q1
          simp
        · exact List.mem_cons_of_mem _ (ih _ q2 hy).2
      · cases e
  obtain ⟨hl, hp⟩ := hm ds ps (h1 _) hy
  unfold ixD
  rw [e, e2]
  simp only [s1, s2, Bool.and_self, if_true]
  have hex : ∃ q ∈ ps, PyData.eqv q p = true := ⟨p, hp, SeqAt.eqv_refl p p2⟩
  cases ef : ps.findIdx? (fun q => PyData.eqv q p) with
  | none =>
    rw [List.findIdx?_eq_none_iff] at ef
    obtain ⟨q, hq, e⟩ := hex
    have := ef q hq
    rw [e] at this
    cases this
  | some j =>
    refine ⟨j, ?_, rfl⟩
    rw [List.findIdx?_eq_some_iff_getElem] at ef
    obtain ⟨hj, _⟩ := ef
    omega
end
theorem c62 (a b c d e f : D) : PQ.cutD [a, b, c, d, e, f] none (some 5) = [a, b, c, d, e] := rfl
theorem c64 (a b c d e f : D) : PQ.cutD [a, b, c, d, e, f] none (some 4) = [a, b, c, d] := rfl
theorem c63 (a b c d e f : D) : PQ.cutD [a, b, c, d, e, f] none (some 3) = [a, b, c] := rfl
theorem c6d (a b c d e f : D) : PQ.cutD [a, b, c, d, e, f] (some 4) none = [e, f] := rfl
theorem c43 (a b c d : D) : PQ.cutD [a, b, c, d] none (some 2) = [a, b] := rfl
section
variable {k : Nat} {R : Sto} {Q : D → Sto → Prop} {d : DS} {w : Str} {tg cap : Nat} {fold : Str} {sp : List PSp} {ti : List PTi} {ar : Nat} {ms : Str} {pt : List Pt} {plan : List Int}
theorem needed_tie_w (x : Pnd tg cap fold sp ti ar ms pt plan) (h0 : 0 < pt.length) (h : ∀ (j : Nat) (d' : DS), j < ti.length → Q (natD j) (d'.st R)) :
    W (orc T (k + 3) n__law_needed_tie [.ref 1, patD (.str w) tg cap (.str fold) sp ti, pieceD ar ms pt, intsD plan] (d.st R)) Q := by
  refine orc_w (ρ := [some (.ref 1), some (patD (.str w) tg cap (.str fold) sp ti), some (pieceD ar ms pt), some (intsD plan), none, none, none, none, none]) rfl rfl rfl ?_
  show W (evSs _ b__law_needed_tie _ _) _
  simp only [b__law_needed_tie]
  mul_fits
  refine pickT_w (by simpa using h0) (by rw [List.length_map]; have := x.ptl; omega) (fun y hy => by
    obtain ⟨p, _, rfl⟩ := List.mem_map.mp hy
    exact ⟨trivial, trivial, trivial, trivial⟩) fun y hy d1 => ?_
  obtain ⟨p, hp, rfl⟩ := List.mem_map.mp hy
  obtain ⟨p1, p2⟩ := x.pr p hp
  have a1 := at_ints plan p.one (by rw [x.pl]; exact p1)
  have a2 := at_ints plan p.other (by rw [x.pl]; exact p2)
  mul_fits
  refine ⟨le_size (by rw [List.length_map]; have := x.til; omega), ?_⟩
  refine loopQ_m (enc := PTi.d) (g := fun t => .tup [.str t.strand, .int t.low, .int t.high]) (I := fun S' => S' = d1.st R) ti (fun t _ S' e => ?_) (fun S' e => ?_) _ rfl
  · subst e
    refine ⟨trivial, ?_⟩
    mul_fits
    rw [c63]
    exact ⟨rfl, rfl⟩
  subst e
  refine ⟨trivial, ?_⟩
  mul_fits
  have kk := get_end (d1.st R) (Ob.lst (ti.map fun t => D.tup [.str t.strand, .int t.low, .int t.high]))
  obtain ⟨t, ht, t1, t2, t3⟩ := x.cv p hp
  obtain ⟨j, hj, e⟩ := ix_in (y := .tup [.str p.strand, .int (loI (gI plan p.one) (gI plan p.other)), .int (hiI (gI plan p.one) (gI plan p.other))]) kk (fun y hy => by
    obtain ⟨t, ht, rfl⟩ := List.mem_map.mp hy
    exact ⟨⟨x.tk t ht, trivial, trivial, trivial⟩, by show max 0 (max 0 (max 0 0)) + 1 ≤ 100; decide⟩) (List.mem_map.mpr ⟨t, ht, by rw [t1, t2, t3]⟩)
  rw [List.length_map] at hj
  refine v_tixR kk ?_
  mul_fits
  refine w_may e ?_
  mul_fits
  rw [st_app]
  exact gc_st2 trivial (h j d1 hj)
end
/-- what a changed world is -/
structure Chg (R : Sto) (b : Nat) : Prop where
  ex : ∃ (w : Str) (tg : Nat) (cap : Int) (fold : Str) (sp : List PSp) (ti : List PTi) (ar : Nat) (ms : Str) (pt : List Pt) (d : D), Wok tg cap ti ar ms pt ∧ (∀ ds : DS, Kn (ds.st R) d) ∧ R[b]? = some (.lst [patD (.str w) tg cap (.str fold) sp ti, pieceD ar ms pt, d])
theorem kn_ints {S : Sto} (l : List Int) : Kn S (intsD l) := fun x hx => by
  obtain ⟨t, _, rfl⟩ := List.mem_map.mp hx
  exact .inl trivial
abbrev HChg (R : Sto) (Q : D → Sto → Prop) : Prop := ∀ (b : Nat) (g : Sto) (d' : DS), R.length ≤ b → Chg (R ++ g) b → Q (.ref (b + 2)) (d'.st (R ++ g))
section
variable {k : Nat} {R g : Sto} {Q : D → Sto → Prop} {d d1 : DS} {w : Str} {tg cap : Nat} {fold : Str} {sp : List PSp} {ti : List PTi} {ar : Nat} {ms : Str} {pt : List Pt} {plan : List Int}
theorem chg_end {cap : Int} {D0 : D} (h : HChg R Q) (wk : Wok tg cap ti ar ms pt) (hk : ∀ (ds : DS) (g' : Sto), Kn (ds.st (R ++ g ++ g')) D0) :
    W (gc (d.st R) (.ref (d1.st (R ++ g)).length) (d1.st (R ++ g) ++ [.lst [patD (.str w) tg cap (.str fold) sp ti, pieceD ar ms pt, D0]])) Q := by
  rw [st_app, st_len, gc_out (by simp [below, st_len])]
  refine w_ok ?_
  have := h (R ++ g).length (g ++ [.lst [patD (.str w) tg cap (.str fold) sp ti, pieceD ar ms pt, D0]]) d1 (by simp) ⟨w, tg, cap, fold, sp, ti, ar, ms, pt, D0, wk, fun ds => by rw [← List.append_assoc]; exact hk ds _, by rw [← List.append_assoc]; exact get_end _ _⟩
  rw [← List.append_assoc] at this
  exact this
theorem chg_end0 {cap : Int} {D0 : D} (h : HChg R Q) (wk : Wok tg cap ti ar ms pt) (hk : ∀ (ds : DS) (g' : Sto), Kn (ds.st (R ++ g')) D0) :
    W (gc (d.st R) (.ref (d1.st R).length) (d1.st R ++ [.lst [patD (.str w) tg cap (.str fold) sp ti, pieceD ar ms pt, D0]])) Q := by
  have := chg_end (g := []) (d := d) (d1 := d1) (w := w) (fold := fold) (sp := sp) h wk (fun ds g' => by rw [List.append_nil]; exact hk ds g')
  rw [List.append_nil] at this
  exact this
theorem mem_cut {α : Type} {l : List α} {j : Nat} {x : α} (h : x ∈ l.take j ++ l.drop (j + 1)) : x ∈ l := by
  rcases List.mem_append.mp h with h | h
  · exact List.mem_of_mem_take h
  · exact List.mem_of_mem_drop h
theorem mem_put {α : Type} {l : List α} {j : Nat} {x y : α} (h : x ∈ l.take j ++ [y] ++ l.drop (j + 1)) : x ∈ l ∨ x = y := by
  rcases List.mem_append.mp h with h | h
  · rcases List.mem_append.mp h with h | h
    · exact .inl (List.mem_of_mem_take h)
    · exact .inr (List.mem_singleton.mp h)
  · exact .inl (List.mem_of_mem_drop h)
theorem spoilt_ties_w (x : Pnd tg cap fold sp ti ar ms pt plan) (h0 : 0 < pt.length) (h : HChg R Q) :
    W (orc T (k + 4) n__law_spoilt_ties [.ref 1, patD (.str w) tg cap (.str fold) sp ti, pieceD ar ms pt, intsD plan] (d.st R)) Q := by
  refine orc_w (ρ := [some (.ref 1), some (patD (.str w) tg cap (.str fold) sp ti), some (pieceD ar ms pt), some (intsD plan), none, none, none, none]) rfl rfl rfl ?_
  show W (evSs _ b__law_spoilt_ties _ _) _
  simp only [b__law_spoilt_ties]
  mul_fits
  refine needed_tie_w x h0 fun j d1 hj => ?_
  have wk := x.wok
  have til := x.til
  have ei : (j : Int) + 1 = ((j + 1 : Nat) : Int) := rfl
  have ekj : atI (ti.map PTi.d) (j : Int) = some ti[j].d := at_map _ _ _ hj
  mul_fits
  refine draw_ (by decide) (by decide) fun u d2 u0 u1 => ?_
  mul_fits
  refine w_ifd (fun c => ?_) fun c => ?_
  · mul_fits
    rw [c62, ei, cut_take, cut_drop]
    refine v_addT (le_size (by simp; omega)) ?_
    rw [← List.map_take, ← List.map_drop, ← List.map_append]
    mul_fits
    exact chg_end0 (ti := ti.take j ++ ti.drop (j + 1)) h ⟨wk.c0, wk.c1, wk.t1, wk.h6, wk.pr, fun t ht => wk.tr t (mem_cut ht)⟩ fun _ _ => kn_ints _
  · mul_fits
    simp only [b__law_spoilt_ties_1]
    have c2 := x.c2
    refine PQ.w_scons (PQ.w_set ?_)
    mul_fits
    refine draw_ (by omega) (by omega) fun u1 d3 u10 u11 => ?_
    refine PQ.w_nx ?_
    refine PQ.w_scons (PQ.w_set (W_mono (Q := fun v S1 => ∃ (d4 : DS) (u2 : Int), v = .int u2 ∧ S1 = d4.st R ∧ 0 ≤ u2) ?_ ?_))
    · mul_fits
      refine w_ifd (fun cc => ?_) fun cc => ?_
      · mul_fits
        exact ⟨d3, u1, rfl, rfl, u10⟩
      · mul_fits
        refine draw_ (by omega) (by omega) fun u2 d4 u20 u21 => ?_
        exact ⟨d4, u2, rfl, rfl, u20⟩
    rintro v S1 ⟨d4, u2, rfl, rfl, u20⟩
    mul_fits
    rw [c62, cut_take]
    refine worth_w fun wv d5 => ?_
    mul_fits
    rw [c63]
    mul_fits
    refine v_addT (le_size (by simp; omega)) ?_
    mul_fits
    rw [ei, cut_drop]
    refine v_addT (le_size (by simp; omega)) ?_
    have et : (ti.map PTi.d).take j ++ [.tup ([.str ti[j].strand, .int ti[j].low, .int ti[j].high] ++ [.int u1, .int u2, .int wv])] ++ (ti.map PTi.d).drop (j + 1) = (ti.take j ++ [PTi.mk ti[j].strand ti[j].low ti[j].high u1 u2 wv] ++ ti.drop (j + 1)).map PTi.d := by simp [List.map_take, List.map_drop]
    rw [et]
    mul_fits
    refine chg_end0 (ti := ti.take j ++ [PTi.mk ti[j].strand ti[j].low ti[j].high u1 u2 wv] ++ ti.drop (j + 1)) h ⟨wk.c0, wk.c1, wk.t1, wk.h6, wk.pr, fun t ht => ?_⟩ fun _ _ => kn_ints _
    rcases mem_put ht with ht | rfl
    · exact wk.tr t ht
    · exact ⟨u10, u20⟩
theorem spoilt_spots_w (x : Pnd tg cap fold sp ti ar ms pt plan) (h0 : 0 < ms.length) (h : HChg R Q) :
    W (orc T (k + 4) n__law_spoilt_spots [.ref 1, patD (.str w) tg cap (.str fold) sp ti, pieceD ar ms pt, intsD plan] (d.st R)) Q := by
  refine orc_w (ρ := [some (.ref 1), some (patD (.str w) tg cap (.str fold) sp ti), some (pieceD ar ms pt), some (intsD plan), none, none, none, none, none, none, none]) rfl rfl rfl ?_
  show W (evSs _ b__law_spoilt_spots _ _) _
  simp only [b__law_spoilt_spots]
  have q1 : ms.length ≤ sizeLine := le64 (by have := x.m60; omega)
  have wk := x.wok
  have spl := x.spl
  have m60 := x.m60
  have hpl := x.pl
  mul_fits
  refine draw_ (by omega) (by omega) fun q d1 q0 q1 => ?_
  obtain ⟨q, rfl⟩ := Int.eq_ofNat_of_zero_le q0
  have hq : q < ms.length := by omega
  have a1 : atI ms.cps.toList ((ar : Int) + (q : Int) - (ar : Int)) = some (ms.cps.toList.getD q 0) := by
    rw [show (ar : Int) + (q : Int) - (ar : Int) = (q : Int) by omega]
    exact mark_at (str_len ms) hq
  have a2 : atI (plan.map D.int) ((ar : Int) + (q : Int)) = some (.int (gI plan (ar + q))) := by
    rw [← Int.natCast_add]
    exact at_ints _ _ (by omega)
  mul_fits
  refine ⟨le_size (by rw [List.length_map]; omega), ?_⟩
  refine loopQ_m (enc := PSp.d) (g := fun t => .tup [.str t.mark, .int t.tag]) (I := fun S' => S' = d1.st R) sp (fun t _ S' e => ?_) (fun S' e => ?_) _ rfl
  · subst e
    refine ⟨trivial, ?_⟩
    mul_fits
    rw [c43]
    exact ⟨rfl, rfl⟩
  subst e
  refine ⟨trivial, ?_⟩
  mul_fits
  have kk := get_end (d1.st R) (Ob.lst (sp.map fun t => D.tup [.str t.mark, .int t.tag]))
  obtain ⟨t, et⟩ := x.tots
  obtain ⟨⟨y, hy, y1, y2⟩, _⟩ := x.cs t et q hq
  obtain ⟨j, hj, e⟩ := ix_in (y := .tup [.str (mkS ms q), .int (gI plan (ar + q))]) kk (fun z hz => by
    obtain ⟨t, ht, rfl⟩ := List.mem_map.mp hz
    exact ⟨⟨x.pk t ht, trivial, trivial⟩, by show max 0 (max 0 0) + 1 ≤ 100; decide⟩) (List.mem_map.mpr ⟨y, hy, by rw [y1, y2]⟩)
  rw [List.length_map] at hj
  refine v_tixR kk ?_
  mul_fits
  refine w_may e ?_
  have ei : (j : Int) + 1 = ((j + 1 : Nat) : Int) := rfl
  have ekj : atI (sp.map PSp.d) (j : Int) = some sp[j].d := at_map _ _ _ hj
  mul_fits
  rw [st_app]
  generalize hg1 : [Ob.lst (sp.map fun t => D.tup [.str t.mark, .int t.tag])] = g1
  refine draw_ (by decide) (by decide) fun u d2 u0 u1 => ?_
  mul_fits
  refine w_ifd (fun c => ?_) fun c => ?_
  · mul_fits
    rw [c64, ei, cut_take, cut_drop]
    refine v_addT (le_size (by simp; omega)) ?_
    rw [← List.map_take, ← List.map_drop, ← List.map_append]
    mul_fits
    exact chg_end (sp := sp.take j ++ sp.drop (j + 1)) h wk fun _ _ => kn_ints _
  · mul_fits
    simp only [b__law_spoilt_spots_1]
    mul_fits
    rw [List.length_map, hpl]
    have htl := tots_len _ _ _ et
    rw [List.length_replicate] at htl
    refine lwholes_w wk.h6 hpl (fun p hp => by rw [hpl]; exact x.pr p hp) (fun e => by rw [et] at e; cases e) fun t' e' => ?_
    rw [et] at e'
    cases e'
    mul_fits
    have kt := get_end (d2.st (R ++ g1)) (Ob.lst (t.map D.int))
    have a3 : atI (t.map D.int) ((ar : Int) + (q : Int)) = some (.int (gI t (ar + q))) := by
      rw [← Int.natCast_add]
      exact at_ints _ _ (by omega)
    mul_fits
    have c2 := x.c2
    refine ltally_w (by omega) ?_
    mul_fits
    rw [show ((cap : Int) + 1) = ((cap + 1 : Nat) : Int) from rfl, rgD0]
    refine ⟨le64 (by simp; omega), ?_⟩
    refine loopQ_f (enc := natD) (p := fun n => !decide ((n : Int) = tly cap fold (gI t (ar + q)))) (g := natD) (I := fun S' => S' = d2.st (R ++ g1) ++ [.lst (t.map .int)]) (List.range (cap + 1)) (fun n hn S' e => ?_) (fun S' e => ?_) _ rfl
    · subst e
      refine ⟨trivial, ?_⟩
      mul_fits
      by_cases cc : (!decide ((n : Int) = tly cap fold (gI t (ar + q)))) = true
      · rw [if_pos cc, if_pos cc]
        mul_fits
        exact ⟨rfl, rfl⟩
      · rw [if_neg cc, if_neg cc]
        mul_fits
        exact ⟨rfl, rfl⟩
    subst e
    refine ⟨trivial, ?_⟩
    generalize (List.range (cap + 1)).filter (fun (n : Nat) => !decide ((n : Int) = tly cap fold (gI t (ar + q)))) = l
    have e9 : l.map natD = (l.map fun (n : Nat) => (n : Int)).map D.int := by rw [List.map_map]; rfl
    rw [e9]
    mul_fits
    rw [st_app]
    have fin : ∀ (d3 : DS) (g2 : Sto) (l : List Int), W (evSs (orc T (k + 3)) b__law_spoilt_spots_2 [some (.ref 1), some (patD (.str w) tg cap (.str fold) sp ti), some (pieceD ar ms pt), some (intsD plan), some (.int ((ar : Int) + (q : Int))), some (.tup (sp.map PSp.d)), some (natD j), some (.int (tly cap fold (gI t (ar + q)))), some (intsD l), none, none] (d3.st (R ++ g2))) fun fl S' => W (retK fl S') fun d' S' => W (gc (d.st R) d' S') Q := by
      intro d3 g2 l
      simp only [b__law_spoilt_spots_2]
      mul_fits
      rw [c64, cut_take]
      refine worth_w fun wv d5 => ?_
      mul_fits
      rw [c43]
      mul_fits
      refine v_addT (le_size (by simp; omega)) ?_
      mul_fits
      rw [ei, cut_drop]
      refine v_addT (le_size (by simp; omega)) ?_
      have et : (sp.map PSp.d).take j ++ [.tup ([.str sp[j].mark, .int sp[j].tag] ++ [.int wv, intsD l])] ++ (sp.map PSp.d).drop (j + 1) = (sp.take j ++ [PSp.mk sp[j].mark sp[j].tag wv l] ++ sp.drop (j + 1)).map PSp.d := by simp [List.map_take, List.map_drop]
      rw [et]
      mul_fits
      exact chg_end (sp := sp.take j ++ [PSp.mk sp[j].mark sp[j].tag wv l] ++ sp.drop (j + 1)) h wk fun _ _ => kn_ints _
    refine w_ifd (fun cc => ?_) fun cc => ?_
    · mul_fits
      refine subset_w c2 fun l2 d4 _ => ?_
      mul_fits
      rw [List.append_assoc]
      exact fin d4 _ l2
    · mul_fits
      refine draw_ (by decide) (by decide) fun u d3 u0 u1 => ?_
      mul_fits
      refine w_ifd (fun cc => ?_) fun cc => ?_
      · mul_fits
        refine subset_w c2 fun l2 d4 _ => ?_
        mul_fits
        rw [List.append_assoc]
        exact fin d4 _ l2
      · mul_fits
        rw [List.append_assoc]
        exact fin d3 _ _
end
/-! ### k24: another web, another choice -/
theorem cutS_from (l : List Nat) (n : Nat) : cutS (stS l) (some (n : Int)) none = stS (l.drop n) := by
  unfold cutS
  rw [HT.sIx_nat, HT.sIx_none, st_length]
  show stS _ = stS _
  congr 1
  simp only [stS]
  by_cases c : n ≤ l.length
  · rw [Nat.min_eq_left c]
    rw [List.take_of_length_le (by simp)]
  · rw [Nat.min_eq_right (by omega), List.drop_of_length_le (by simp), List.drop_of_length_le (by omega)]
    simp
theorem cut_memC {l : List D} {a b : Option Int} {x : D} (h : x ∈ PQ.cutD l a b) : x ∈ l := by
  unfold PQ.cutD at h
  exact List.mem_of_mem_drop (List.mem_of_mem_take h)
theorem mulS_ok (z : Str) (hz : z.length ≤ 1) (n : Nat) (hn : n ≤ 64) : MulOk z (n : Int) := by
  refine ⟨by simp; omega, fun h1 _ => ?_, fun _ _ => ?_⟩
  · intro h2
    have h3 : (1 : Int) ≤ (2 ^ 63 - 1) / (n : Int) := by
      have hn0 : 0 < (n : Int) := by omega
      exact (Int.le_ediv_iff_mul_le hn0).mpr (by omega)
    omega
  · have : z.length * (n : Int).toNat ≤ 1 * 64 := Nat.mul_le_mul hz (by omega)
    have key : ∀ m : Nat, m ≤ 64 → Builtin.Str.tooLong m = false := fun m hm => decide_eq_false (by have := le_size (show m ≤ 100000 by omega); omega)
    exact key _ (by omega)
section
variable {k : Nat} {R g : Sto} {Q : D → Sto → Prop} {d d1 : DS} {w : Str} {tg cap : Nat} {fold : Str} {sp : List PSp} {ti : List PTi} {ar : Nat} {ms : Str} {pt : List Pt} {plan : List Int}
theorem flip_ite (f : Str) : ∃ f2 : Str, (if decide (f = "cap") = true then D.str "mod" else D.str "cap") = .str f2 := by
  split <;> exact ⟨_, rfl⟩
theorem spoilt_web_w (x : Pnd tg cap fold sp ti ar ms pt plan) (h : HChg R Q) :
    W (orc T (k + 4) n__law_spoilt_web [.ref 1, patD (.str w) tg cap (.str fold) sp ti, pieceD ar ms pt, intsD plan] (d.st R)) Q := by
  refine orc_w (ρ := [some (.ref 1), some (patD (.str w) tg cap (.str fold) sp ti), some (pieceD ar ms pt), some (intsD plan), none, none, none, none, none]) rfl rfl rfl ?_
  show W (evSs _ b__law_spoilt_web _ _) _
  simp only [b__law_spoilt_web]
  have m60 := x.m60
  have q1 : ms.length ≤ sizeLine := le64 (by omega)
  have wk := x.wok
  have ptl := x.ptl
  mul_fits
  refine draw_ (by decide) (by decide) fun way d1 w0 w1 => ?_
  mul_fits
  -- the last one
  have fin3 : ∀ (d2 : DS) (o8 : Option D), W (evSs (orc T (k + 3)) b__law_spoilt_web_3 [some (.ref 1), some (patD (.str w) tg cap (.str fold) sp ti), some (pieceD ar ms pt), some (intsD plan), some (.int (ar : Nat)), some (.str ms), some (.tup (pt.map Pt.d)), some (.int way), o8] (d2.st R)) fun fl S' => W (retK fl S') fun d' S' => W (gc (d.st R) d' S') Q := by
    intro d2 o8
    simp only [b__law_spoilt_web_3]
    mul_fits
    have fin : ∀ f : Str, W (evEs (orc T (k + 3)) CEs.nil [some (.ref 1), some (patD (.str w) tg cap (.str fold) sp ti), some (pieceD ar ms pt), some (intsD plan), some (.int (ar : Nat)), some (.str ms), some (.tup (pt.map Pt.d)), some (.int way), o8] (d2.st R)) fun ds S2 => True := fun f => by
      mul_fits
      trivial
    refine w_ifd (fun cc => ?_) fun cc => ?_
    · mul_fits
      rw [c63]
      mul_fits
      rw [c6d]
      mul_fits
      exact chg_end0 (fold := "mod") h wk fun _ _ => kn_ints _
    · mul_fits
      rw [c63]
      mul_fits
      rw [c6d]
      mul_fits
      exact chg_end0 (fold := "cap") h wk fun _ _ => kn_ints _
  have fin2 : ∀ (d2 : DS) (o8 : Option D), W (evSs (orc T (k + 3)) b__law_spoilt_web_2 [some (.ref 1), some (patD (.str w) tg cap (.str fold) sp ti), some (pieceD ar ms pt), some (intsD plan), some (.int (ar : Nat)), some (.str ms), some (.tup (pt.map Pt.d)), some (.int way), o8] (d2.st R)) fun fl S' => W (retK fl S') fun d' S' => W (gc (d.st R) d' S') Q := by
    intro d2 o8
    simp only [b__law_spoilt_web_2]
    mul_fits
    refine w_chnB (fun c => ?_) fun c => ?_
    · have c := of_decide_eq_true c
      rw [List.length_map] at c
      mul_fits
      refine w_ifd (fun c2 => ?_) fun c2 => ?_
      · rw [List.length_map] at c2
        mul_fits
        rw [List.length_map]
        refine draw_ (by omega) (by omega) fun j d3 j0 j1 => ?_
        obtain ⟨j, rfl⟩ := Int.eq_ofNat_of_zero_le j0
        mul_fits
        rw [show (j : Int) + 1 = ((j + 1 : Nat) : Int) from rfl, cut_take, cut_drop]
        refine v_addT (le_size (by simp; omega)) ?_
        rw [← List.map_take, ← List.map_drop, ← List.map_append]
        mul_fits
        refine chg_end0 (pt := pt.take (j + 1) ++ pt.drop j) h ⟨wk.c0, wk.c1, wk.t1, wk.h6, fun p hp => wk.pr p ?_, wk.tr⟩ fun _ _ => kn_ints _
        rcases List.mem_append.mp hp with hp | hp
        · exact List.mem_of_mem_take hp
        · exact List.mem_of_mem_drop hp
      · mul_fits
        exact fin3 d2 o8
    · mul_fits
      exact fin3 d2 o8
  have fin1 : ∀ (d2 : DS), W (evSs (orc T (k + 3)) b__law_spoilt_web_1 [some (.ref 1), some (patD (.str w) tg cap (.str fold) sp ti), some (pieceD ar ms pt), some (intsD plan), some (.int (ar : Nat)), some (.str ms), some (.tup (pt.map Pt.d)), some (.int way), none] (d2.st R)) fun fl S' => W (retK fl S') fun d' S' => W (gc (d.st R) d' S') Q := by
    intro d2
    simp only [b__law_spoilt_web_1]
    mul_fits
    refine w_ifd (fun c => ?_) fun c => ?_
    · mul_fits
      refine w_ifd (fun c2 => ?_) fun c2 => ?_
      · rw [List.length_map] at c2
        mul_fits
        rw [List.length_map]
        refine draw_ (by omega) (by omega) fun j d3 j0 j1 => ?_
        obtain ⟨j, rfl⟩ := Int.eq_ofNat_of_zero_le j0
        mul_fits
        rw [show (j : Int) + 1 = ((j + 1 : Nat) : Int) from rfl, cut_take, cut_drop]
        refine v_addT (le_size (by simp; omega)) ?_
        rw [← List.map_take, ← List.map_drop, ← List.map_append]
        mul_fits
        exact chg_end0 (pt := pt.take j ++ pt.drop (j + 1)) h ⟨wk.c0, wk.c1, wk.t1, wk.h6, fun p hp => wk.pr p (mem_cut hp), wk.tr⟩ fun _ _ => kn_ints _
      · mul_fits
        exact fin2 d2 none
    · mul_fits
      exact fin2 d2 none
  refine w_ifd (fun c => ?_) fun c => ?_
  · mul_fits
    refine w_ifd (fun c2 => ?_) fun c2 => ?_
    · mul_fits
      refine draw_ (by omega) (by omega) fun j d3 j0 j1 => ?_
      obtain ⟨j, rfl⟩ := Int.eq_ofNat_of_zero_le j0
      mul_fits
      refine v_slcX q1 ?_
      refine letter_w fun y hy d4 => ?_
      obtain ⟨cx, hcx, rfl⟩ := hy
      have hcl := str_len ms
      have hcs : ms.cps.size = ms.length := rfl
      have hms : ms = stS ms.cps.toList := rfl
      have e1 : cutS ms none (some (j : Int)) = stS (ms.cps.toList.take j) := cutS_to _ _
      have e2 : cutS ms (some ((j : Int) + 1)) none = stS (ms.cps.toList.drop (j + 1)) := cutS_from _ _
      rw [e1]
      refine v_addS (b := ⟨#[cx]⟩) (by rw [st_length]; show _ + 1 ≤ _; exact le_size (by simp; omega)) ?_
      mul_fits
      refine v_slcX q1 ?_
      rw [e2, show (⟨#[cx]⟩ : Str) = stS [cx] from rfl, st_append]
      refine v_addS (by rw [st_length, st_length]; exact le_size (by simp; omega)) ?_
      rw [st_append]
      mul_fits
      have hln : (stS (ms.cps.toList.take j ++ [cx] ++ ms.cps.toList.drop (j + 1))).length = ms.length := by
        rw [st_length]
        simp
        omega
      exact chg_end0 (ms := stS (ms.cps.toList.take j ++ [cx] ++ ms.cps.toList.drop (j + 1))) h ⟨wk.c0, wk.c1, wk.t1, by rw [hln]; exact wk.h6, by rw [hln]; exact wk.pr, wk.tr⟩ fun _ _ => kn_ints _
    · mul_fits
      exact fin1 d1
  · mul_fits
    exact fin1 d1
/-- a choice that may be none -/
abbrev HTh (R : Sto) (Q : D → Sto → Prop) : Prop := ∀ (D0 : D) (g : Sto) (d' : DS), (∀ (ds : DS) (g' : Sto), Kn (ds.st (R ++ g ++ g')) D0) → Q D0 (d'.st (R ++ g))
theorem kn_pd {S : Sto} {D0 : D} (h : Pd D0) : Kn S D0 := by
  cases D0 with
  | tup ds => exact fun x hx => .inl (pd_tup.mp h x hx)
  | ref i => exact absurd h (by simp [below])
  | _ => trivial
theorem th_pd {D0 : D} (h : HTh R Q) (hp : Pd D0) : W (gc (d.st R) D0 (d1.st (R ++ g))) Q := gc_st2 (hp.b _) (by
  have := h D0 [] d1 fun ds g' => kn_pd hp
  rw [List.append_nil] at this
  exact this)
theorem th_out {D0 : D} (h : HTh R Q) (hb : ¬ below (R.length + 2) D0) (hk : ∀ (ds : DS) (g' : Sto), Kn (ds.st (R ++ g ++ g')) D0) : W (gc (d.st R) D0 (d1.st (R ++ g))) Q := by
  rw [gc_out (by rw [st_len]; exact hb)]
  exact w_ok (h D0 g d1 hk)
theorem other_thing_w (x : Pnd tg cap fold sp ti ar ms pt plan) (h : HTh R Q) :
    W (orc T (k + 4) n__law_other_thing [.ref 1, patD (.str w) tg cap (.str fold) sp ti, intsD plan] (d.st R)) Q := by
  refine orc_w (ρ := [some (.ref 1), some (patD (.str w) tg cap (.str fold) sp ti), some (intsD plan), none, none, none]) rfl rfl rfl ?_
  show W (evSs _ b__law_other_thing _ _) _
  simp only [b__law_other_thing]
  have hpl : plan.length ≤ 63 := by have := x.pl; have := x.ar3; have := x.m60; omega
  have row : ∀ d2 : DS, W (evSs (orc T (k + 3)) (.cons (.ret (.call 16 (.cons (.var 0) (.cons (.alloc (.disp (.cons (.alloc (.list (.e (.var 2)))) (.cons (.bin .add (.var 2) (.tup (.cons (.lit (.int 0)) .nil))) (.cons (.slc (.var 2) .none (.some (.neg (.lit (.int 1))))) (.cons (.slc (.var 2) (.some (.lit (.int 1))) .none) (.cons (.tup (.cons (.var 2) .nil)) (.cons (.bin .add (.var 2) (.var 2)) (.cons (.lit .non) (.cons (.lit (.int 0)) (.cons (.lit (.bl true)) (.cons (.lit (.str "")) (.cons (.bin .mul (.lit (.str "0")) (.agg .len (.e (.var 2)))) (.cons (.alloc (.disp .nil)) (.cons (.tup (.cons (.tup .nil) .nil)) (.cons (.bin .mul (.tup (.cons (.lit .non) .nil)) (.agg .len (.e (.var 2)))) .nil)))))))))))))))) .nil)))) .nil) [some (.ref 1), some (patD (.str w) tg cap (.str fold) sp ti), some (intsD plan), none, none, none] (d2.st R)) fun fl S' => W (seqK (orc T (k + 3)) b__law_other_thing_1 fl S') fun fl S' => W (retK fl S') fun d' S' => W (gc (d.st R) d' S') Q := by
    intro d2
    mul_fits
    simp only [st_len, st_app]
    refine v_addT (le64 (by simp; omega)) ?_
    mul_fits
    refine v_addT (le_size (by simp; omega)) ?_
    mul_fits
    rw [List.length_map]
    refine v_mulS (mulS_ok "0" (by decide) plan.length (by omega)) ?_
    mul_fits
    simp only [st_len, st_app]
    rw [List.length_map]
    refine v_mulT ⟨by omega, by omega, by simp⟩ ?_
    mul_fits
    simp only [st_len, st_app]
    refine pick_w (b := (R ++ [Ob.lst (plan.map D.int)] ++ [Ob.lst []]).length) (by simp) (by simp) (get_end _ _) fun y hy d3 => ?_
    mul_fits
    have hpI : ∀ x ∈ plan.map D.int, Pd x := fun x hx => by
      obtain ⟨t, _, rfl⟩ := List.mem_map.mp hx
      trivial
    have hcut : ∀ (a b : Option Int), Pd (.tup (PQ.cutD (plan.map D.int) a b)) := fun a b => pd_tup.mpr fun x hx => hpI x (cut_memC hx)
    have hy' : y = .ref (R.length + 2) ∨ y = .ref ((R ++ [Ob.lst (plan.map D.int)]).length + 2) ∨ Pd y := by
      simp only [List.mem_cons, List.not_mem_nil, or_false] at hy
      rcases hy with rfl | rfl | rfl | rfl | rfl | rfl | rfl | rfl | rfl | rfl | rfl | rfl | rfl | rfl
      · exact .inl rfl
      · refine .inr (.inr (pd_tup.mpr fun x hx => ?_))
        rcases List.mem_append.mp hx with hx | hx
        · exact hpI x hx
        · rw [List.mem_singleton.mp hx]; trivial
      · exact .inr (.inr (hcut _ _))
      · exact .inr (.inr (hcut _ _))
      · exact .inr (.inr ⟨pd_tup.mpr hpI, trivial⟩)
      · refine .inr (.inr (pd_tup.mpr fun x hx => ?_))
        rcases List.mem_append.mp hx with hx | hx <;> exact hpI x hx
      · exact .inr (.inr trivial)
      · exact .inr (.inr trivial)
      · exact .inr (.inr trivial)
      · exact .inr (.inr trivial)
      · exact .inr (.inr trivial)
      · exact .inr (.inl rfl)
      · exact .inr (.inr ⟨trivial, trivial⟩)
      · refine .inr (.inr (pd_tup.mpr fun x hx => ?_))
        rw [List.mem_flatten] at hx
        obtain ⟨q, hq, hx⟩ := hx
        rw [List.eq_of_mem_replicate hq, List.mem_singleton] at hx
        rw [hx]
        trivial
    rw [List.append_assoc, List.append_assoc]
    rcases hy' with rfl | rfl | hy'
    · refine th_out h (by simp [below]) fun ds g' => .inr ⟨_, plan.map .int, rfl, ?_⟩
      rw [st_get]
      simp
    · refine th_out h (by simp [below]) fun ds g' => .inr ⟨_, [], rfl, ?_⟩
      rw [st_get]
      simp
    · exact th_pd h hy'
  refine PQ.w_scons (PQ.w_ite (W_mono (Q := fun cc S1 => ∃ d2 : DS, S1 = d2.st R ∧ (cc = false → plan.length ≠ 0)) ?_ ?_))
  · mul_fits
    refine w_ifd (fun c => ?_) fun c => ?_
    · mul_fits
      exact fun z => nomatch z
    · rw [List.length_map] at c
      mul_fits
      refine draw_ (by decide) (by decide) fun u d1 u0 u1 => ?_
      mul_fits
      exact fun _ z => c (by rw [z]; rfl)
  rintro cc S1 ⟨d1, rfl, hcc⟩
  refine w_if (fun c => ?_) fun c => ?_
  · exact row d1
  have c := hcc c
  mul_fits
  simp only [b__law_other_thing_1]
  mul_fits
  rw [List.length_map]
  refine draw_ (by omega) (by omega) fun j d2 j0 j1 => ?_
  obtain ⟨j, rfl⟩ := Int.eq_ofNat_of_zero_le j0
  have a1 := at_ints plan j (by omega)
  have hrg := gI_rg x.pg (show j < plan.length by omega)
  have tg1 := x.tg1
  have tg3 := x.tg3
  mul_fits
  refine draw_ (by omega) (by omega) fun y1 d3 _ _ => ?_
  mul_fits
  refine draw_ (by omega) (by omega) fun y2 d4 _ _ => ?_
  mul_fits
  refine draw_ (by omega) (by omega) fun y3 d5 _ _ => ?_
  mul_fits
  refine v_str (Nat.lt_of_le_of_lt (Nat.log2_le_self _) (by omega)) ?_
  mul_fits
  simp only [st_len, st_app]
  refine pick_w (b := (R ++ [Ob.lst [D.int (gI plan j)]]).length) (by simp) (by simp) (get_end _ _) fun y hy d6 => ?_
  mul_fits
  rw [cut_take]
  refine v_addT (le_size (by simp; omega)) ?_
  mul_fits
  rw [show (j : Int) + 1 = ((j + 1 : Nat) : Int) from rfl, cut_drop]
  refine v_addT (le_size (by simp; omega)) ?_
  mul_fits
  have hpI : ∀ x ∈ plan.map D.int, Pd x := fun x hx => by
    obtain ⟨t, _, rfl⟩ := List.mem_map.mp hx
    trivial
  have hpt : ∀ x ∈ (plan.map D.int).take j ++ [y] ++ (plan.map D.int).drop (j + 1), Pd x ∨ x = y := fun x hx => by
    rcases mem_put hx with hx | hx
    · exact .inl (hpI x hx)
    · exact .inr hx
  have hy' : y = .ref (R.length + 2) ∨ Pd y := by
    simp only [List.mem_cons, List.not_mem_nil, or_false] at hy
    rcases hy with rfl | rfl | rfl | rfl | rfl | rfl | rfl | rfl | rfl | rfl
    · exact .inr trivial
    · exact .inr trivial
    · exact .inr trivial
    · exact .inr trivial
    · exact .inr trivial
    · exact .inr trivial
    · exact .inr trivial
    · exact .inr trivial
    · exact .inr ⟨trivial, trivial⟩
    · exact .inl rfl
  rw [List.append_assoc R]
  rcases hy' with rfl | hy'
  · refine th_out h (fun z => ?_) fun ds g' => fun x hx => ?_
    · have := belows_iff.mp z (.ref (R.length + 2)) (by simp)
      exact absurd this (by simp [below])
    · rcases hpt x hx with hx | rfl
      · exact .inl hx
      · refine .inr ⟨_, [.int (gI plan j)], rfl, ?_⟩
        rw [st_get]
        simp
  · refine th_pd h (pd_tup.mpr fun x hx => ?_)
    rcases hpt x hx with hx | rfl
    · exact hx
    · exact hy'
theorem spoilt_w (x : Pnd tg cap fold sp ti ar ms pt plan) (h : HChg R Q) :
    W (orc T (k + 5) n__law_spoilt [.ref 1, patD (.str w) tg cap (.str fold) sp ti, pieceD ar ms pt, intsD plan] (d.st R)) Q := by
  refine orc_w (ρ := [some (.ref 1), some (patD (.str w) tg cap (.str fold) sp ti), some (pieceD ar ms pt), some (intsD plan), none]) rfl rfl rfl ?_
  show W (evSs _ b__law_spoilt _ _) _
  simp only [b__law_spoilt]
  have m60 := x.m60
  have q1 : ms.length ≤ sizeLine := le64 (by omega)
  have wk := x.wok
  have hh : HChg R fun y S' => W (gc (d.st R) y S') Q := fun b g d' hb hc => by
    show W (gc _ _ _) _
    rw [gc_out (by simp [below, st_len]; omega)]
    exact w_ok (h b g d' hb hc)
  mul_fits
  refine draw_ (by decide) (by decide) fun way d1 w0 w1 => ?_
  mul_fits
  have fin3 : W (evSs (orc T (k + 4)) b__law_spoilt_3 [some (.ref 1), some (patD (.str w) tg cap (.str fold) sp ti), some (pieceD ar ms pt), some (intsD plan), some (.int way)] (d1.st R)) fun fl S' => W (retK fl S') fun d' S' => W (gc (d.st R) d' S') Q := by
    simp only [b__law_spoilt_3]
    mul_fits
    refine w_ifd (fun c => ?_) fun c => ?_
    · mul_fits
      refine w_ifd (fun cc => ?_) fun cc => ?_
      · mul_fits
        rw [c63]
        mul_fits
        rw [c6d]
        mul_fits
        exact chg_end0 (fold := "mod") h wk fun _ _ => kn_ints _
      · mul_fits
        rw [c63]
        mul_fits
        rw [c6d]
        mul_fits
        exact chg_end0 (fold := "cap") h wk fun _ _ => kn_ints _
    · mul_fits
      simp only [b__law_spoilt_4]
      mul_fits
      refine other_thing_w x fun D0 g d' hk => ?_
      mul_fits
      exact chg_end h wk hk
  have fin2 : W (evSs (orc T (k + 4)) b__law_spoilt_2 [some (.ref 1), some (patD (.str w) tg cap (.str fold) sp ti), some (pieceD ar ms pt), some (intsD plan), some (.int way)] (d1.st R)) fun fl S' => W (retK fl S') fun d' S' => W (gc (d.st R) d' S') Q := by
    simp only [b__law_spoilt_2]
    mul_fits
    refine w_ifd (fun c => ?_) fun c => ?_
    · mul_fits
      refine spoilt_web_w x fun b g d' hb hc => ?_
      mul_fits
      exact hh b g d' hb hc
    · mul_fits
      exact fin3
  have fin1 : W (evSs (orc T (k + 4)) b__law_spoilt_1 [some (.ref 1), some (patD (.str w) tg cap (.str fold) sp ti), some (pieceD ar ms pt), some (intsD plan), some (.int way)] (d1.st R)) fun fl S' => W (retK fl S') fun d' S' => W (gc (d.st R) d' S') Q := by
    simp only [b__law_spoilt_1]
    mul_fits
    refine w_ifd (fun c => ?_) fun c => ?_
    · mul_fits
      refine w_ifd (fun c2 => ?_) fun c2 => ?_
      · mul_fits
        refine spoilt_spots_w x (by omega) fun b g d' hb hc => ?_
        mul_fits
        exact hh b g d' hb hc
      · mul_fits
        exact fin2
    · mul_fits
      exact fin2
  refine w_ifd (fun c => ?_) fun c => ?_
  · mul_fits
    refine w_ifd (fun c2 => ?_) fun c2 => ?_
    · rw [List.length_map] at c2
      mul_fits
      refine spoilt_ties_w x (by omega) fun b g d' hb hc => ?_
      mul_fits
      exact hh b g d' hb hc
    · mul_fits
      exact fin1
  · mul_fits
    exact fin1
end
/-! ### k24: the law -/
section
variable {k : Nat} {S : Sto} {Q : D → Sto → Prop} {w : D} {tg : Nat} {cap : Int} {fold : Str} {sp : List PSp} {ti : List PTi} {ar : Nat} {ms : Str} {pt : List Pt}
theorem agrees_w {d : D} (o : Wok tg cap ti ar ms pt) (hd : Kn S d) (h : Q (.bl true) S) : W (orc T (k + 5) n__law_agrees [patD w tg cap (.str fold) sp ti, pieceD ar ms pt, d] S) Q := by
  cases c : isCh tg (ar + ms.length) d with
  | false => exact agrees_no o hd c h
  | true =>
    obtain ⟨tags, rfl, h1, h2⟩ := isCh_ex c
    exact agrees_yes o h1 h2 h
end
theorem law_w {sc : List Int} (hs : sc.length ≤ 63) : W (orc T (20 + 1) n_law [.fix (sc.map .int)] []) fun d _ => d = .bl true := by
  refine orc_w (ρ := [some (.fix (sc.map .int)), none, none, none, none, none, none, none, none, none]) rfl rfl rfl ?_
  show W (evSs _ b_law _ _) Good1
  simp only [b_law]
  mul_fits
  refine begin_w rfl hs ?_
  mul_fits
  refine rare_w (by decide) (by decide) fun c d1 => ?_
  mul_fits
  refine planned_w fun w tg cap fold sp ti ar ms pt plan b g d2 x hb => ?_
  have bn : ∀ (ρ : En), bindN (.tup [3, 4, 5]) (.ref (b + 2)) ρ (d2.st ([] ++ g)) = some (((ρ.set 3 (some (patD (.str w) tg cap (.str fold) sp ti))).set 4 (some (pieceD ar ms pt))).set 5 (some (intsD plan))) := fun ρ => by
    have : (d2.st ([] ++ g))[b + 2]? = some (.lst [patD (.str w) tg cap (.str fold) sp ti, pieceD ar ms pt, intsD plan]) := hb
    simp only [bindN, sqOf, lsOf, this]
    rfl
  refine w_may (bn _) ?_
  have wk := x.wok
  have hpl := x.pl
  have m60 := x.m60
  have ar3 := x.ar3
  mul_fits
  have hp' : ∀ p ∈ pt, p.one < plan.length ∧ p.other < plan.length := fun p hp => by rw [hpl]; exact x.pr p hp
  refine is_lot_yes wk.c0 wk.h6 (str_len ms) hpl x.pg hp' ?_
  rw [x.lot]
  mul_fits
  refine says_w ?_
  mul_fits
  refine agrees_w wk (kn_ints _) ?_
  mul_fits
  simp only [b_law_1]
  mul_fits
  rw [List.length_map]
  mul_fits
  rw [rgD_0]
  refine loop_rg (a := 0) (n := plan.length) (fun n ρ S' => ∃ (o6 o7 : Option D), S' = d2.st ([] ++ g) ∧ ρ = [some (.fix (sc.map .int)), some (.ref 1), some (.bl c), some (patD (.str w) tg cap (.str fold) sp ti), some (pieceD ar ms pt), some (intsD plan), o6, o7, none, none]) ?_ ?_ _ _ ⟨none, none, rfl, rfl⟩
  · rintro j ρ S' j0 j1 ⟨o6, o7, rfl, rfl⟩
    refine ⟨trivial, ?_⟩
    simp only [b_law_2]
    have a1 := at_ints plan j (by omega)
    mul_fits
    refine loopS_w (fun ds ρ S' => ∃ (o7 : Option D), S' = d2.st ([] ++ g) ∧ ρ = [some (.fix (sc.map .int)), some (.ref 1), some (.bl c), some (patD (.str w) tg cap (.str fold) sp ti), some (pieceD ar ms pt), some (intsD plan), some (natD j), o7, none, none] ∧ ∀ y ∈ ds, Pd y ∧ chB tg y = false) ?_ ?_ _ _ _ ⟨_, rfl, rfl, fun y hy => ?_⟩
    · rintro y ds ρ S' ⟨o7, rfl, rfl, hy⟩
      refine ⟨trivial, ?_⟩
      obtain ⟨y1, y2⟩ := hy y (by simp)
      simp only [b_law_3]
      mul_fits
      rw [cut_take]
      refine v_addT (le_size (by simp; omega)) ?_
      mul_fits
      rw [show (j : Int) + 1 = ((j + 1 : Nat) : Int) from rfl, cut_drop]
      refine v_addT (le_size (by simp; omega)) ?_
      mul_fits
      have hkn : ∀ S : Sto, Kn S (.tup ((plan.map D.int).take j ++ [y] ++ (plan.map D.int).drop (j + 1))) := fun S z hz => by
        rcases mem_put hz with hz | rfl
        · obtain ⟨t, _, rfl⟩ := List.mem_map.mp hz
          exact .inl trivial
        · exact .inl y1
      refine is_lot_no wk.h6 (hkn _) ?_ ?_
      · show (decide _ && _) = false
        rw [Bool.and_eq_false_iff]
        right
        rw [List.all_eq_false]
        exact ⟨y, by simp, by rw [y2]; simp⟩
      mul_fits
      refine says_w ?_
      mul_fits
      exact ⟨_, .inl rfl, _, rfl, rfl, fun z hz => hy z (by simp [hz])⟩
    · rintro ρ S' ⟨o7, rfl, rfl, _⟩
      refine ⟨trivial, ?_⟩
      mul_fits
      exact ⟨_, .inl rfl, _, _, rfl, rfl⟩
    · simp only [List.mem_cons, List.not_mem_nil, or_false] at hy
      rcases hy with rfl | rfl | rfl
      · exact ⟨trivial, by simp [chB]⟩
      · exact ⟨trivial, by simp [chB]⟩
      · exact ⟨trivial, rfl⟩
  · rintro ρ S' ⟨o6, o7, rfl, rfl⟩
    refine ⟨trivial, ?_⟩
    mul_fits
    simp only [b_law_4]
    refine PQ.w_scons ?_
    refine PQ.w_for ?_
    have lp : ∀ m : Nat, W (loopS (Itv.still ⟨rgD 0 (m : Int), none⟩) (fun d ρ1 S2 => may (bindN (.nm 8) d ρ1 S2) fun ρ2 => evSs (orc T 20) b_law_5 ρ2 S2) (rgD 0 (m : Int)) [some (.fix (sc.map .int)), some (.ref 1), some (.bl c), some (patD (.str w) tg cap (.str fold) sp ti), some (pieceD ar ms pt), some (intsD plan), o6, o7, none, none] (d2.st ([] ++ g))) fun fl S1 => W (seqK (orc T 20) b_law_6 fl S1) Good1 := by
      intro m
      rw [rgD_0]
      refine loop_rg (a := 0) (n := m) (fun n ρ S' => ∃ (R' : Sto) (d' : DS) (o8 o9 : Option D), S' = d'.st R' ∧ ρ = [some (.fix (sc.map .int)), some (.ref 1), some (.bl c), some (patD (.str w) tg cap (.str fold) sp ti), some (pieceD ar ms pt), some (intsD plan), o6, o7, o8, o9]) ?_ ?_ _ _ ⟨_, d2, none, none, rfl, rfl⟩
      · rintro n ρ S' n0 n1 ⟨R', d', o8, o9, rfl, rfl⟩
        refine ⟨trivial, ?_⟩
        simp only [b_law_5]
        mul_fits
        refine spoilt_w x fun b g d3 hb hc => ?_
        obtain ⟨w2, tg2, cap2, fold2, sp2, ti2, ar2, ms2, pt2, D2, wk2, hk2, hg2⟩ := hc.ex
        have k1 : (d3.st (R' ++ g))[b + 2]? = some (.lst [patD (.str w2) tg2 cap2 (.str fold2) sp2 ti2, pieceD ar2 ms2 pt2, D2]) := hg2
        mul_fits
        refine agrees_w wk2 (hk2 d3) ?_
        mul_fits
        exact ⟨_, .inl rfl, _, d3, _, _, rfl, rfl⟩
      · rintro ρ S' ⟨R', d', o8, o9, rfl, rfl⟩
        refine ⟨trivial, ?_⟩
        mul_fits
        simp only [b_law_6]
        mul_fits
        refine agrees_w wk (kn_ints _) ?_
        mul_fits
        exact good1
    mul_fits
    refine w_if (fun cc => ?_) fun cc => ?_
    · mul_fits
      exact lp 4
    · mul_fits
      exact lp 10
theorem law_true : ∀ ns : List Int, ns.length ≤ 63 → ∃ S, orc T (20 + 1) n_law [.fix (ns.map .int)] [] = .ok (.bl true) S := fun ns h => by
  obtain ⟨a, S, e, q⟩ := law_w h
  subst q
  exact ⟨S, e⟩
end K24
end
theorem PySem.Challenge.cw_everygrown_k24_lots_judged_holds : PySem.Challenge.rw_everygrown_k24_lots_judged.Holds :=
  K24.fin K24.law_true
