import PyProof.Rows.All
import Wide.All
import OpenK.AllK
import Wide.FinOn
import KE.DataCmp
import HandS.Deep
import HandS.ForMost
import HandS.Defaults
import HandS.TupAny
import HandS.List
import HandS.Strs
import HandS.Wide
import HandS.Gcd
import HandS.IsInst
import HandS.Style
import HandS.Conv
import HandS.NoneIn
import HandS.Flow
import HandS.Zip
import KE.SortData
import HandS.Head2
import HandS.HeadEnd
import HandS.HeadHook2
import KE.KStateDown
import HandS.Dict
import HandS.Text
import PyProof.StrBlock2
import PyProof.TwoTypesSub
import PyProof.ListStr
import HandS.More
import HandS.WideBits
import PyProof.FitsReplace
import HandS.Head3
import PySem.Challenge.RW_everygrown_k13_paths_and_parts
set_option Elab.async false
set_option linter.all false
set_option maxRecDepth 100000
set_option maxHeartbeats 4000000
/-! Tuples whose object is known to have no dict: so that a method of theirs can be called. -/
namespace PQ
open PySem PySem.Spec PyProof.Rows L2
/-- at a stands a tuple of xs, and its object has no dict -/
def SqN (K : PySem.W.Frag) (H : Hp) (a : Addr) (xs : List V) : Prop :=
  (∃ o : Obj, H a = some (.frz o (.tup xs)) ∧ o.cls = .type "tuple" ∧ o.dict = none) ∨
  ∃ (o : Obj) (its : Array Value) (n : Nat), K.lookup a = some o ∧ o.cls = .type "tuple" ∧ o.dict = none ∧ o.data = .seq its n ∧ its.size ≤ sizeLine ∧ Vals xs its.toList
theorem SqN.sq {K : PySem.W.Frag} {H : Hp} {a : Addr} {xs : List V} (h : SqN K H a xs) : SqT K H a xs := by
  rcases h with ⟨o, h, _⟩ | ⟨o, its, n, h1, h2, _, h3, h4, h5⟩
  · exact .inl (.inr ⟨o, h⟩)
  · exact .inr ⟨o, its, n, h1, h2, h3, h4, h5⟩
/-- a new tuple -/
def NwT (H : Hp) (Q : VK) (xs : List V) : Prop := ∀ (p : Addr) (o : Obj), H p = none → o.cls = .type "tuple" → o.dict = none → Q (.ref p) (upd H p (.frz o (.tup xs)))
theorem SqN.new {K : PySem.W.Frag} {H : Hp} {p : Addr} {o : Obj} {xs : List V} (h1 : o.cls = .type "tuple") (h2 : o.dict = none) : SqN K (upd H p (.frz o (.tup xs))) p xs := .inl ⟨o, upd_same, h1, h2⟩
section
variable {X : Cx} {pos : Pos} {es : List Expr} {t : TA}
def tTupN (t : TA) : TE := fun σ H Q => t σ H fun xs H1 => xs.length ≤ sizeLine ∧ NwT H1 Q xs
theorem pe_tupN {x1} (h : PA X es t) : PE X (.Tuple es x1 pos) (tTupN t) := by
  refine ⟨fun pins s σ H Q I hq => ?_⟩
  refine wpAny_Tuple_spliced (thn (h.run pos pins s σ H _ I hq) fun us s1 ⟨xs, H1, I1, r, z, q⟩ => ⟨by rw [← r.length]; exact z, ?_⟩)
  have hf : H1 s1.heap.objs.size = none := I1.hok.fresh (Nat.le_refl _)
  have hg := Heap.get?_push_size (h := s1.heap) (o := ({ cls := .type "tuple", data := .seq us.toArray } : Obj)) rfl
  refine ⟨.ref s1.heap.objs.size, upd H1 s1.heap.objs.size (.frz { cls := .type "tuple", data := .seq us.toArray } (.tup xs)), I1.laid (t' := s1.toks) (fun b u e => Heap.get?_push_of_some _ e) (Nat.le_refl _) ?_, rfl, q _ _ hf rfl rfl⟩
  exact ⟨hg, z, us, r, ⟨_, hg, rfl, _, rfl⟩⟩
def rCatN (K : PySem.W.Frag) : R2 := fun x y H Q => ∃ a b xs ys, x = .ref a ∧ y = .ref b ∧ SqT K H a xs ∧ SqT K H b ys ∧ xs.length + ys.length ≤ sizeLine ∧
  (xs = [] → Q (.ref b) H) ∧ (xs ≠ [] → ys = [] → Q (.ref a) H) ∧ (xs ≠ [] → ys ≠ [] → NwT H Q (xs ++ ys))
theorem op_catN : OpR X (binaryOp .Add) (rCatN X.K) := by
  intro pins s σ H x y v u Q I rx ry h
  obtain ⟨a, b, xs, ys, rfl, rfl, ha, hb, hz, q0, q1, q2⟩ := h
  by_cases hx : xs = []
  · subst hx
    cases rx
    cases ry
    obtain ⟨its, r1, p1, _⟩ := I.tuple ha
    obtain ⟨its2, r2, p2, _⟩ := I.tuple hb
    cases r1
    exact cat_tup0 p1 p2 ⟨.ref b, H, I, rfl, q0 rfl⟩
  · cases rx
    cases ry
    obtain ⟨its, r1, p1, _⟩ := I.tuple ha
    obtain ⟨its2, r2, p2, _⟩ := I.tuple hb
    refine HT.cat_tup p1 p2 (fun z => hx (r1.nil_iff.mp z)) (fun z => ⟨.ref a, H, I, rfl, q1 hx (r2.nil_iff.mp z)⟩) (fun z => ?_) (by rw [← r1.length, ← r2.length]; exact hz)
    have hg := Heap.get?_push_size (h := s.heap) (o := ({ cls := .type "tuple", data := .seq (its ++ its2).toArray } : Obj)) rfl
    refine ⟨.ref s.heap.objs.size, _, I.laid (t' := s.toks) (o := .frz { cls := .type "tuple", data := .seq (its ++ its2).toArray } (.tup (xs ++ ys))) (fun b ob q => Heap.get?_push_of_some _ q) (Nat.le_refl _) ?_, rfl, q2 hx (fun w => z (r2.nil_iff.mpr w)) _ _ (I.hok.fresh (Nat.le_refl _)) rfl rfl⟩
    exact ⟨hg, by rw [List.length_append]; exact hz, _, r1.append r2, ⟨_, hg, rfl, _, rfl⟩⟩
def rSlN (K : PySem.W.Frag) : V → Option Int → Option Int → Hp → VK → Prop := fun x lo hi H Q => ∃ a xs, x = .ref a ∧ SqT K H a xs ∧
  (HT.sIx xs.length 0 lo = 0 ∧ HT.sIx xs.length xs.length hi = xs.length → Q (.ref a) H) ∧ (¬ (HT.sIx xs.length 0 lo = 0 ∧ HT.sIx xs.length xs.length hi = xs.length) → NwT H Q (cutV xs lo hi))
theorem sl_tupN : SlR X (rSlN X.K) := by
  intro pins s σ H x v vl vu lo hi sl Q I rx hs pl pu h
  obtain ⟨a, xs, rfl, hx, q1, q2⟩ := h
  cases rx
  obtain ⟨its, r, ht, hz⟩ := I.tuple hx
  have hlen : its.toArray.size = xs.length := by rw [List.size_toArray]; exact r.length.symm
  by_cases hw : HT.sIx xs.length 0 lo = 0 ∧ HT.sIx xs.length xs.length hi = xs.length
  · refine ⟨"tuple", _, PyProof.Rows.slot_tuple_getitem.lookup, ht.typeIs, ?_⟩
    exact getItem_tuple_whole ht hs pl pu (by rw [hlen]; exact hw) ⟨.ref a, H, I, rfl, q1 hw⟩
  · refine ⟨"tuple", _, PyProof.Rows.slot_tuple_getitem.lookup, ht.typeIs, ?_⟩
    refine HT.getItem_tuple_cut ht hs pl pu (by rw [hlen]; exact hw) ?_ (by rw [hlen]; exact hz)
    rw [hlen]
    have hg := Heap.get?_push_size (h := s.heap) (o := ({ cls := .type "tuple", data := .seq ((its.drop (HT.sIx xs.length 0 lo)).take (HT.sIx xs.length xs.length hi - HT.sIx xs.length 0 lo)).toArray } : Obj)) rfl
    refine ⟨.ref s.heap.objs.size, _, I.laid (t' := s.toks) (o := .frz { cls := .type "tuple", data := .seq ((its.drop (HT.sIx xs.length 0 lo)).take (HT.sIx xs.length xs.length hi - HT.sIx xs.length 0 lo)).toArray } (.tup (cutV xs lo hi))) (fun b ob q => Heap.get?_push_of_some _ q) (Nat.le_refl _) ?_, rfl, q2 hw _ _ (I.hok.fresh (Nat.le_refl _)) rfl rfl⟩
    exact ⟨hg, Nat.le_trans (cutV_length xs lo hi) hz, _, (r.drop (HT.sIx xs.length 0 lo)).take (HT.sIx xs.length xs.length hi - HT.sIx xs.length 0 lo), ⟨_, hg, rfl, _, rfl⟩⟩
theorem call_tupleN : CallR X (.type "tuple") (fun xs H Q => ∃ p ys, xs = [.ref p] ∧ ((SqL X.K H p ys ∧ NwT H Q ys) ∨ (SqT X.K H p ys ∧ Q (.ref p) H))) := by
  intro pins s σ H xs us Q I r h
  obtain ⟨p, ys, rfl, h⟩ := h
  obtain ⟨u, rfl, rx⟩ := vals1 r
  cases rx
  rcases h with ⟨hq, q⟩ | ⟨hq, q⟩
  · obtain ⟨its, r', pl, hz⟩ := I.list hq
    have hlen := r'.length
    refine call_tuple_list pl.isList (fun h' kp => ?_) (by simp only [List.size_toArray] <;> omega)
    have I1 : Inv X pins σ H { s with heap := h' } := I.kept (t' := s.toks) kp
    have hg := Heap.get?_push_size (h := h') (o := ({ cls := .type "tuple", data := .seq its.toArray } : Obj)) rfl
    have I2 : Inv X pins σ (upd H h'.objs.size (.frz { cls := .type "tuple", data := .seq its.toArray } (.tup ys))) { s with heap := h'.push { cls := .type "tuple", data := .seq its.toArray } } :=
      I1.laid (t' := s.toks) (fun b o e => Heap.get?_push_of_some _ e) (Nat.le_refl _) (show ObjOk X.prog X.w _ _ _ (.frz _ (.tup ys)) from ⟨hg, hz, its, r', ⟨_, hg, rfl, _, rfl⟩⟩)
    exact ⟨.ref h'.objs.size, _, I2, rfl, q _ _ (I1.hok.fresh (Nat.le_refl _)) rfl rfl⟩
  · obtain ⟨its, r', pl, hz⟩ := I.tuple hq
    exact call_tuple_same pl ⟨.ref p, H, I, rfl, q⟩
/-- t.index(i), the first place, of numbers -/
theorem mt_tup_indexI : MtR X "tuple.index" (fun x xs H Q => ∃ p, ∃ ys : List Int, ∃ z j, x = .ref p ∧ xs = [.int z] ∧ SqT X.K H p (ys.map V.int) ∧ ys[j]? = some z ∧ (∀ m, m < j → ys[m]? ≠ some z) ∧ Q (.int (j : Nat)) H) := by
  intro pins s σ H x xs v us Q I rx rs h
  obtain ⟨p, ys, z, j, rfl, rfl, hq, hy, hno, q⟩ := h
  cases rx
  obtain ⟨u, rfl, t, rfl⟩ := vals1 rs
  obtain ⟨its, r, pl, hz⟩ := I.tuple hq
  obtain ⟨⟨cls, dd, dt, sl⟩, ho, hc, n, hd⟩ := pl
  simp only at hc hd
  subst hc
  subst hd
  have hl : its.toArray.size = ys.length := by rw [List.size_toArray, ← r.length, List.length_map]
  have hj : j < its.toArray.size := by rw [hl]; exact (List.getElem?_eq_some_iff.mp hy).1
  have at' : ∀ (m : Nat) (hm : m < its.toArray.size), ∃ y t', ys[m]? = some y ∧ its.toArray[m] = Value.int y t' := fun m hm => by
    have hm' : m < ys.length := by rw [← hl]; exact hm
    obtain ⟨w, hw, t', hw'⟩ := r.get (i := m) (x := .int ys[m]) (by simp [hm'])
    refine ⟨ys[m], t', List.getElem?_eq_getElem hm', ?_⟩
    have e := (List.getElem?_eq_some_iff.mp hw).2
    rw [← hw', ← e]
    simp
  have fl : (ys.map V.int).all flatV = true := by
    rw [List.all_map]
    exact List.all_eq_true.mpr fun _ _ => rfl
  refine call_meets PySem.F.slot_tuple_index ⟨_, ho, rfl⟩ PySem.F.entry_tuple_index (PySem.F.args_tuple_index_2 _ _) (TI.tuple_indexAt p its.toArray n dd sl (.int z t) (eqU (.int z)) j hj ?_ ?_)
    ⟨ho, fun w hw => mem_eqAt (x := .int z) ⟨t, rfl⟩ rfl r fl w (by simpa using hw), ⟨.int (j : Nat), H, I.tok _, ⟨_, rfl⟩, q⟩⟩
  · obtain ⟨y, t', h1, h2⟩ := at' j hj
    rw [hy] at h1
    cases h1
    rw [h2]
    show (z == z) = true
    exact beq_self_eq_true z
  · intro m hm hmj
    obtain ⟨y, t', h1, h2⟩ := at' m hm
    rw [h2]
    show (y == z) = false
    exact beq_eq_false_iff_ne.mpr fun e => hno m hmj (e ▸ h1)
/-! ### data as deep as a thousand -/
def shp (d : PyData) : Bool := d.canLay0 && decide (d.depth ≤ 3000)
theorem canLay_of_shp {d : PyData} (h : shp d = true) : d.canLay0 = true := (Bool.and_eq_true_iff.mp h).1
theorem depth_of_shp {d : PyData} (h : shp d = true) : d.depth ≤ 3000 := of_decide_eq_true (Bool.and_eq_true_iff.mp h).2
theorem room_of_shp {A : Around} {da db : PyData} (h : shp da = true) (hu : A.units + 3010 < cLine) : A.units + min da.depth db.depth < cLine := by
  have h1 := depth_of_shp h
  have h2 : min da.depth db.depth ≤ da.depth := Nat.min_le_left _ _
  omega
theorem room_in_shp {A : Around} {xs : List PyData} {d : PyData} (hd : shp d = true) (hu : A.units + 3010 < cLine) : A.units + 1 + min (PyData.depthAll xs) d.depth < cLine := by
  have h1 := depth_of_shp hd
  have h2 : min (PyData.depthAll xs) d.depth ≤ d.depth := Nat.min_le_right _ _
  omega
def rEqP (K : PySem.W.Frag) : R2 := fun x y H Q => ∃ d e, Dp K H x d ∧ Dp K H y e ∧ shp d = true ∧ shp e = true ∧ Q (.bl (PyData.eqv d e)) H
def rNeP (K : PySem.W.Frag) : R2 := fun x y H Q => ∃ d e, Dp K H x d ∧ Dp K H y e ∧ shp d = true ∧ shp e = true ∧ Q (.bl (!PyData.eqv d e)) H
def rInP (K : PySem.W.Frag) : R2 := fun x y H Q => ∃ d ds, Dp K H x d ∧ Dp K H y (.list ds) ∧ shp d = true ∧ shp (.list ds) = true ∧ Q (.bl (ds.any fun z => PyData.eqv z d)) H
def rNotInP (K : PySem.W.Frag) : R2 := fun x y H Q => ∃ d ds, Dp K H x d ∧ Dp K H y (.list ds) ∧ shp d = true ∧ shp (.list ds) = true ∧ Q (.bl (!ds.any fun z => PyData.eqv z d)) H
theorem op_eqP (hu : X.A.units + 3010 < cLine) : OpR X (compareOp .Eq) (rEqP X.K) := by
  intro pins s σ H x y v u Q I rx ry h
  obtain ⟨d, e, hd, he, sd, se, q⟩ := h
  obtain ⟨as, r1⟩ := Dp.reads I d x v hd rx
  obtain ⟨bs, r2⟩ := Dp.reads I e y u he ry
  exact SeqAt.compareEq_reads r1 r2 (canLay_of_shp sd) (canLay_of_shp se) (room_of_shp sd hu) ⟨.bl _, H, I, rfl, q⟩
theorem op_neP (hu : X.A.units + 3010 < cLine) : OpR X (compareOp .NotEq) (rNeP X.K) := by
  intro pins s σ H x y v u Q I rx ry h
  obtain ⟨d, e, hd, he, sd, se, q⟩ := h
  obtain ⟨as, r1⟩ := Dp.reads I d x v hd rx
  obtain ⟨bs, r2⟩ := Dp.reads I e y u he ry
  exact SeqAt.compareNe_reads r1 r2 (canLay_of_shp sd) (canLay_of_shp se) (room_of_shp sd hu) ⟨.bl _, H, I, rfl, q⟩
theorem op_inP (hu : X.A.units + 3010 < cLine) : OpR X (compareOp .In) (rInP X.K) := by
  intro pins s σ H x y v u Q I rx ry h
  obtain ⟨d, ds, hd, he, sd, se, q⟩ := h
  obtain ⟨as, r1⟩ := Dp.reads I d x v hd rx
  obtain ⟨bs, r2⟩ := Dp.reads I (.list ds) y u he ry
  exact SeqAt.in_list_reads r2 r1 (canLay_of_shp se) (canLay_of_shp sd) (room_in_shp sd hu) ⟨.bl _, H, I, rfl, q⟩
theorem op_notInP (hu : X.A.units + 3010 < cLine) : OpR X (compareOp .NotIn) (rNotInP X.K) := by
  intro pins s σ H x y v u Q I rx ry h
  obtain ⟨d, ds, hd, he, sd, se, q⟩ := h
  obtain ⟨as, r1⟩ := Dp.reads I d x v hd rx
  obtain ⟨bs, r2⟩ := Dp.reads I (.list ds) y u he ry
  exact SeqAt.notIn_list_reads r2 r1 (canLay_of_shp se) (canLay_of_shp sd) (room_in_shp sd hu) ⟨.bl _, H, I, rfl, q⟩
/-! ### the order of data -/
def isNonP : PyData → Bool
  | .none => true
  | _ => false
def cmpOk (p q : PyData) : Bool := PySem.W.alike p q && !isNonP p && decide (p.depth ≤ 3000)
def rOrd (b : PyData → PyData → Bool) (K : PySem.W.Frag) : R2 := fun x y H Q => ∃ d e, Dp K H x d ∧ Dp K H y e ∧ cmpOk d e = true ∧ Q (.bl (b d e)) H
theorem cmpOk_of {d e : PyData} (h : cmpOk d e = true) : PySem.W.alike d e = true ∧ d ≠ .none ∧ d.depth ≤ 3000 := by
  unfold cmpOk at h
  simp only [Bool.and_eq_true, Bool.not_eq_true', decide_eq_true_eq] at h
  exact ⟨h.1.1, fun z => by rw [z] at h; simp [isNonP] at h, h.2⟩
theorem room_of_dep {A : Around} {da db : PyData} (h : da.depth ≤ 3000) (hu : A.units + 3010 < cLine) : A.units + min da.depth db.depth < cLine := by
  have h2 : min da.depth db.depth ≤ da.depth := Nat.min_le_left _ _
  omega
theorem op_ltO (hu : X.A.units + 3010 < cLine) : OpR X (compareOp .Lt) (rOrd (fun d e => PySem.W.dataLt d e) X.K) := by
  intro pins s σ H x y v u Q I rx ry ⟨d, e, hd, he, ok, q⟩
  obtain ⟨as, r1⟩ := Dp.reads I d x v hd rx
  obtain ⟨bs, r2⟩ := Dp.reads I e y u he ry
  obtain ⟨h1, h2, h3⟩ := cmpOk_of ok
  exact PySem.W.lt_data r1 r2 h1 h2 (room_of_dep h3 hu) ⟨.bl _, H, I, rfl, q⟩
theorem op_gtO (hu : X.A.units + 3010 < cLine) : OpR X (compareOp .Gt) (rOrd (fun d e => PySem.W.dataLt e d) X.K) := by
  intro pins s σ H x y v u Q I rx ry ⟨d, e, hd, he, ok, q⟩
  obtain ⟨as, r1⟩ := Dp.reads I d x v hd rx
  obtain ⟨bs, r2⟩ := Dp.reads I e y u he ry
  obtain ⟨h1, h2, h3⟩ := cmpOk_of ok
  exact PySem.W.gt_data r1 r2 h1 h2 (room_of_dep h3 hu) ⟨.bl _, H, I, rfl, q⟩
theorem op_leO (hu : X.A.units + 3010 < cLine) : OpR X (compareOp .LtE) (rOrd (fun d e => !PySem.W.dataLt e d) X.K) := by
  intro pins s σ H x y v u Q I rx ry ⟨d, e, hd, he, ok, q⟩
  obtain ⟨as, r1⟩ := Dp.reads I d x v hd rx
  obtain ⟨bs, r2⟩ := Dp.reads I e y u he ry
  obtain ⟨h1, h2, h3⟩ := cmpOk_of ok
  exact PySem.W.le_data r1 r2 h1 h2 (room_of_dep h3 hu) ⟨.bl _, H, I, rfl, q⟩
theorem op_geO (hu : X.A.units + 3010 < cLine) : OpR X (compareOp .GtE) (rOrd (fun d e => !PySem.W.dataLt d e) X.K) := by
  intro pins s σ H x y v u Q I rx ry ⟨d, e, hd, he, ok, q⟩
  obtain ⟨as, r1⟩ := Dp.reads I d x v hd rx
  obtain ⟨bs, r2⟩ := Dp.reads I e y u he ry
  obtain ⟨h1, h2, h3⟩ := cmpOk_of ok
  exact PySem.W.ge_data r1 r2 h1 h2 (room_of_dep h3 hu) ⟨.bl _, H, I, rfl, q⟩
/-- l.index(x): the first place of an equal one -/
def rIndexP (K : PySem.W.Frag) : V → List V → Hp → VK → Prop := fun x xs H Q => ∃ (a : Addr) (y : V) (d : PyData) (ds : List PyData) (j : Nat) (z : PyData), x = V.ref a ∧ xs = [y] ∧ Dp K H (V.ref a) (.list ds) ∧ Dp K H y d ∧
  shp (.list ds) = true ∧ shp d = true ∧ ds[j]? = some z ∧ PyData.eqv z d = true ∧ (∀ (m : Nat) (z' : PyData), m < j → ds[m]? = some z' → PyData.eqv z' d = false) ∧ Q (.int (j : Nat)) H
theorem mt_indexP (hu : X.A.units + 3010 < cLine) : MtR X "list.index" (rIndexP X.K) := by
  intro pins s σ H x xs v us Q I rx rxs h
  obtain ⟨a, y, d, ds, j, z, rfl, rfl, hl, hy, sl, sd, hz, hzj, hno, q⟩ := h
  cases rx
  cases rxs with
  | cons ry rt =>
    rename_i uy ut
    cases rt
    obtain ⟨bs, r1⟩ := Dp.reads I d y uy hy ry
    have hxs : PyData.canLayAll0 ds = true := canLay_of_shp sl
    have hroom : X.A.units + 1 + min (PyData.depthAll ds) d.depth < cLine := room_in_shp sd hu
    cases hl with
    | lst hs ha =>
      obtain ⟨its, rv, ⟨⟨cls, dd, data, sls⟩, n, ho, hc, hdn, hdt⟩, hlen⟩ := I.list hs
      simp only at hc hdt
      subst hc hdt
      obtain ⟨as, h4⟩ := Dp.readsAll I ds _ its ha rv
      have hn : its.length = ds.length := SeqAt.ReadsAll.length ds its as h4
      have hmap : its.map (SeqAt.readOf s.heap) = ds := SeqAt.readsAll_map ds its as hxs h4
      have hvl := rv.length
      have hsl := sizeLine_eq
      obtain ⟨hjd, _⟩ := List.getElem?_eq_some_iff.mp hz
      have hjl : j < its.length := by omega
      have hj : j < its.toArray.size := by simpa using hjl
      have at_ : ∀ (m : Nat) (hm : m < its.toArray.size) (z' : PyData), ds[m]? = some z' → SeqAt.readOf s.heap its.toArray[m] = z' := by
        intro m hm z' hz'
        have hml : m < its.length := by simpa using hm
        rw [← hmap, List.getElem?_map, List.getElem?_eq_getElem hml] at hz'
        have e1 : SeqAt.readOf s.heap its[m] = z' := Option.some.inj (show some (SeqAt.readOf s.heap its[m]) = some z' from hz')
        simpa using e1
      refine call_meets PySem.F.slot_list_index ⟨_, ho, rfl⟩ PySem.F.entry_list_index (PySem.F.args_list_index_2 _ _)
        (SeqAt.list_indexAt a its.toArray n dd sls uy (fun u => PyData.eqv (SeqAt.readOf s.heap u) d) j hj (by omega) ?_ ?_) ⟨ho, SeqAt.items_eqAt (vs := its.toArray) (show ReadsAll s.heap its.toArray.toList ds as from h4) r1 hxs (canLay_of_shp sd) hroom, ?_⟩
      · show PyData.eqv (SeqAt.readOf s.heap its.toArray[j]) d = true
        rw [at_ j hj z hz]
        exact hzj
      · intro m hm hmj
        have hmd : m < ds.length := by omega
        have hz' : ds[m]? = some ds[m] := List.getElem?_eq_getElem hmd
        show PyData.eqv (SeqAt.readOf s.heap its.toArray[m]) d = false
        rw [at_ m hm _ hz']
        exact hno m _ hmj hz'
      · exact ⟨.int (j : Nat), H, I.tok _, ⟨_, rfl⟩, q⟩
/-- t.index(x), of data -/
def rIndexT (K : PySem.W.Frag) : V → List V → Hp → VK → Prop := fun x xs H Q => ∃ (a : Addr) (y : V) (d : PyData) (ds : List PyData) (j : Nat) (z : PyData), x = V.ref a ∧ xs = [y] ∧ Dp K H (V.ref a) (.tuple ds) ∧ Dp K H y d ∧
  shp (.list ds) = true ∧ shp d = true ∧ ds[j]? = some z ∧ PyData.eqv z d = true ∧ (∀ (m : Nat) (z' : PyData), m < j → ds[m]? = some z' → PyData.eqv z' d = false) ∧ Q (.int (j : Nat)) H
theorem mt_indexT (hu : X.A.units + 3010 < cLine) : MtR X "tuple.index" (rIndexT X.K) := by
  intro pins s σ H x xs v us Q I rx rxs h
  obtain ⟨a, y, d, ds, j, z, rfl, rfl, hl, hy, sl, sd, hz, hzj, hno, q⟩ := h
  cases rx
  cases rxs with
  | cons ry rt =>
    rename_i uy ut
    cases rt
    obtain ⟨bs, r1⟩ := Dp.reads I d y uy hy ry
    have hxs : PyData.canLayAll0 ds = true := canLay_of_shp sl
    have hroom : X.A.units + 1 + min (PyData.depthAll ds) d.depth < cLine := room_in_shp sd hu
    cases hl with
    | tup hs ha =>
      obtain ⟨its, rv, ⟨⟨cls, dd, data, sls⟩, ho, hc, n, hdt⟩, hlen⟩ := I.tuple hs
      simp only at hc hdt
      subst hc hdt
      obtain ⟨as, h4⟩ := Dp.readsAll I ds _ its ha rv
      have hn : its.length = ds.length := SeqAt.ReadsAll.length ds its as h4
      have hmap : its.map (SeqAt.readOf s.heap) = ds := SeqAt.readsAll_map ds its as hxs h4
      have hvl := rv.length
      obtain ⟨hjd, _⟩ := List.getElem?_eq_some_iff.mp hz
      have hjl : j < its.length := by omega
      have hj : j < its.toArray.size := by simpa using hjl
      have at_ : ∀ (m : Nat) (hm : m < its.toArray.size) (z' : PyData), ds[m]? = some z' → SeqAt.readOf s.heap its.toArray[m] = z' := by
        intro m hm z' hz'
        have hml : m < its.length := by simpa using hm
        rw [← hmap, List.getElem?_map, List.getElem?_eq_getElem hml] at hz'
        have e1 : SeqAt.readOf s.heap its[m] = z' := Option.some.inj (show some (SeqAt.readOf s.heap its[m]) = some z' from hz')
        simpa using e1
      refine call_meets PySem.F.slot_tuple_index ⟨_, ho, rfl⟩ PySem.F.entry_tuple_index (PySem.F.args_tuple_index_2 _ _)
        (TI.tuple_indexAt a its.toArray n dd sls uy (fun u => PyData.eqv (SeqAt.readOf s.heap u) d) j hj ?_ ?_) ⟨ho, SeqAt.items_eqAt (vs := its.toArray) (show ReadsAll s.heap its.toArray.toList ds as from h4) r1 hxs (canLay_of_shp sd) hroom, ?_⟩
      · show PyData.eqv (SeqAt.readOf s.heap its.toArray[j]) d = true
        rw [at_ j hj z hz]
        exact hzj
      · intro m hm hmj
        have hmd : m < ds.length := by omega
        have hz' : ds[m]? = some ds[m] := List.getElem?_eq_getElem hmd
        show PyData.eqv (SeqAt.readOf s.heap its.toArray[m]) d = false
        rw [at_ m hm _ hz']
        exact hno m _ hmj hz'
      · exact ⟨.int (j : Nat), H, I.tok _, ⟨_, rfl⟩, q⟩
def rIdxI (K : PySem.W.Frag) : V → List V → Hp → VK → Prop := fun x xs H Q => ∃ p, ∃ ys : List Int, ∃ z j, x = .ref p ∧ xs = [.int z] ∧ SqT K H p (ys.map V.int) ∧ ys[j]? = some z ∧ (∀ m, m < j → ys[m]? ≠ some z) ∧ Q (.int (j : Nat)) H
theorem mt_indexTI (hu : X.A.units + 3010 < cLine) : MtR X "tuple.index" (fun x xs H Q => rIdxI X.K x xs H Q ∨ rIndexT X.K x xs H Q) := by
  intro pins s σ H x xs v us Q I rx rxs h
  rcases h with h | h
  · exact mt_tup_indexI pins s σ H x xs v us Q I rx rxs h
  · exact mt_indexT hu pins s σ H x xs v us Q I rx rxs h
theorem sqn_is {pins : List (Addr × Obj)} {σ : L2.St} {H : Hp} {s : Shared} {p : Addr} {xs : List V} (I : Inv X pins σ H s) (h : SqN X.K H p xs) :
    s.TypeIs (.ref p) "tuple" ∧ ∀ a, Value.ref p = .ref a → ∃ ob, s.heap.get? a = some ob ∧ ob.dict = none := by
  rcases h with ⟨o, h, h1, h2⟩ | ⟨o, its, n, h, h1, h2, _⟩
  · obtain ⟨e, _⟩ := I.hok p _ h
    refine ⟨⟨o, e, h1⟩, fun a ea => ?_⟩
    cases ea
    exact ⟨o, e, h2⟩
  · refine ⟨⟨o, I.kIn p o h, h1⟩, fun a e => ?_⟩
    cases e
    exact ⟨o, I.kIn _ o h, h2⟩
section
variable {o e : Expr} {to : TE} {name : Str} {apos cpos : Pos} {id : String} {r : V → List V → Hp → VK → Prop}
def tTM (K : PySem.W.Frag) (r : V → List V → Hp → VK → Prop) (to : TE) (t : TA) : TE := fun σ H Q => to σ H fun x H1 => (∃ p xs, x = .ref p ∧ SqN K H1 p xs) ∧ t σ H1 fun xs H2 => r x xs H2 Q
/-- a method of a tuple -/
theorem pe_tm (slot : Slot "tuple" name id) (hty : typeOf (.builtin id) = pure (.type "method_descriptor")) (hm : MtR X id r) (ho : PE X o to) (ha : PA X (e :: es) t)
    (hbase : attributeBase o name X.env (eval o X.env) = eval o X.env := by rfl)
    (hfew : ((backTo cpos (starEach (e :: es) X.env)).all (fun x => !x.1) && (backToKw cpos (keywordEach [] X.env)).all (fun x => x.1.isSome)
      && decide ((e :: es).length + ([] : List Keyword).length + (if ([] : List Keyword).isEmpty then 0 else 1) < 30)) = true := by rfl)
    (hline : (apos.endLine == cpos.line) = true := by rfl) (hs : starEach (e :: es) X.env = (false, eval e X.env) :: starEach es X.env := by rfl) (hplain : (backTo cpos (starEach es X.env)).any (·.1) = false := by rfl) :
    PE X (.Call (.Attribute o name apos) (e :: es) [] cpos) (tTM X.K r to t) := by
  refine ⟨fun pins s σ H Q I h => ?_⟩
  refine wpAny_Call_method_late hbase hfew hline rfl (thn (ho.run pins s σ H _ I h) fun v s1 ⟨x, H1, I1, r1, ⟨p, xs, ex, ty⟩, q1⟩ => ?_)
  subst ex
  cases r1
  obtain ⟨h1, h2⟩ := sqn_is I1 ty
  refine ⟨"tuple", id, PySem.F.plainAttrs_tuple, slot, hty, h1, h2, ?_⟩
  have hA := ha.run cpos pins s1 σ H1 _ I1 q1
  rw [hs] at hA ⊢
  refine Calls.callWith_builtin (by show (false || (backTo cpos (starEach es X.env)).any (·.1)) = false; rw [hplain] <;> rfl) (Calls.evalArgs_plain ?_)
  exact thn hA fun us s2 ⟨vs, H2, I2, r2, q2⟩ => hm pins s2 σ H2 (.ref p) vs (.ref p) us Q I2 rfl r2 q2
def tTL (K : PySem.W.Frag) (r1 r2 : V → List V → Hp → VK → Prop) (to : TE) (t : TA) : TE := fun σ H Q => to σ H fun x H1 => ((∃ p xs, x = .ref p ∧ SqN K H1 p xs) ∧ t σ H1 fun xs H2 => r1 x xs H2 Q) ∨ (tyV K "list" x H1 ∧ t σ H1 fun xs H2 => r2 x xs H2 Q)
/-- a method of a tuple or of a list -/
theorem pe_tl {id2 : String} {r2 : V → List V → Hp → VK → Prop} (slot : Slot "tuple" name id) (hty : typeOf (.builtin id) = pure (.type "method_descriptor")) (hm : MtR X id r) (slot2 : Slot "list" name id2) (hty2 : typeOf (.builtin id2) = pure (.type "method_descriptor")) (hm2 : MtR X id2 r2) (ho : PE X o to) (ha : PA X (e :: es) t)
    (hbase : attributeBase o name X.env (eval o X.env) = eval o X.env := by rfl)
    (hfew : ((backTo cpos (starEach (e :: es) X.env)).all (fun x => !x.1) && (backToKw cpos (keywordEach [] X.env)).all (fun x => x.1.isSome)
      && decide ((e :: es).length + ([] : List Keyword).length + (if ([] : List Keyword).isEmpty then 0 else 1) < 30)) = true := by rfl)
    (hline : (apos.endLine == cpos.line) = true := by rfl) (hs : starEach (e :: es) X.env = (false, eval e X.env) :: starEach es X.env := by rfl) (hplain : (backTo cpos (starEach es X.env)).any (·.1) = false := by rfl) :
    PE X (.Call (.Attribute o name apos) (e :: es) [] cpos) (tTL X.K r r2 to t) := by
  refine ⟨fun pins s σ H Q I h => ?_⟩
  refine wpAny_Call_method_late hbase hfew hline rfl (thn (ho.run pins s σ H _ I h) fun v s1 ⟨x, H1, I1, r1, q0⟩ => ?_)
  rcases q0 with ⟨⟨p, xs, ex, ty⟩, q1⟩ | ⟨ty, q1⟩
  · subst ex
    cases r1
    obtain ⟨h1, h2⟩ := sqn_is I1 ty
    refine ⟨"tuple", id, PySem.F.plainAttrs_tuple, slot, hty, h1, h2, ?_⟩
    have hA := ha.run cpos pins s1 σ H1 _ I1 q1
    rw [hs] at hA ⊢
    refine Calls.callWith_builtin (by show (false || (backTo cpos (starEach es X.env)).any (·.1)) = false; rw [hplain] <;> rfl) (Calls.evalArgs_plain ?_)
    exact thn hA fun us s2 ⟨vs, H2, I2, r2, q2⟩ => hm pins s2 σ H2 (.ref p) vs (.ref p) us Q I2 rfl r2 q2
  · obtain ⟨h1, h2⟩ := tyV_is I1 r1 ty
    refine ⟨"list", id2, PySem.F.plainAttrs_list, slot2, hty2, h1, h2, ?_⟩
    have hA := ha.run cpos pins s1 σ H1 _ I1 q1
    rw [hs] at hA ⊢
    refine Calls.callWith_builtin (by show (false || (backTo cpos (starEach es X.env)).any (·.1)) = false; rw [hplain] <;> rfl) (Calls.evalArgs_plain ?_)
    exact thn hA fun us s2 ⟨vs, H2, I2, rr, q2⟩ => hm2 pins s2 σ H2 x vs v us Q I2 r1 rr q2
end
end
end PQ

/-! A small language of pure data and stores, and what it says of the machine. -/
namespace PQ
open PySem PySem.Spec PyProof.Rows L2

/-- data: what a Python value is worth, tuples by their items, changeable lists by a number in the store -/
inductive D where
  | non
  | bl (b : Bool)
  | int (i : Int)
  | str (x : Str)
  | tup (ds : List D)
  | ref (i : Nat)
  | fix (ds : List D)
/-- what stands in the store -/
inductive Ob where
  | lst (ds : List D)
  | dic (kvs : List (Key × D))
abbrev Sto := List Ob
abbrev En := List (Option D)
abbrev Fg := PySem.W.Frag

/-- a list that nobody changes -/
def Fix (K : Fg) (H : Hp) (a : Addr) (xs : List V) : Prop :=
  (∃ o, H a = some (.frz o (.lst xs))) ∨
    ∃ (o : Obj) (its : Array Value) (n : Nat), K.lookup a = some o ∧ o.cls = .type "list" ∧ o.dict = none ∧ o.data = .seq its n ∧ its.size ≤ sizeLine ∧ Vals xs its.toList
theorem Fix.sq {K : Fg} {H : Hp} {a : Addr} {xs : List V} (h : Fix K H a xs) : SqL K H a xs := by
  rcases h with ⟨o, h⟩ | h
  · exact .inl (.inr ⟨o, h⟩)
  · exact .inr h

mutual
def Rp (K : Fg) (μ : List Addr) (H : Hp) : D → V → Prop
  | .non, v => v = .non
  | .bl b, v => v = .bl b
  | .int i, v => v = .int i
  | .str x, v => v = .str x
  | .tup ds, v => ∃ a vs, v = .ref a ∧ SqN K H a vs ∧ RpA K μ H ds vs ∧ ds.length ≤ sizeLine
  | .ref i, v => ∃ a, v = .ref a ∧ μ[i]? = some a
  | .fix ds, v => ∃ a vs, v = .ref a ∧ Fix K H a vs ∧ RpA K μ H ds vs ∧ ds.length ≤ sizeLine
def RpA (K : Fg) (μ : List Addr) (H : Hp) : List D → List V → Prop
  | [], vs => vs = []
  | d :: ds, vs => ∃ v r, vs = v :: r ∧ Rp K μ H d v ∧ RpA K μ H ds r
end

section
variable {K : Fg} {μ μ' μ1 μ2 : List Addr} {H H' H1 H2 : Hp} {S S' : Sto} {σ σ' : L2.St} {ρ : En}

/-- what a run may do to the machine: new things, and changes at the store's own addresses -/
structure Ext (K : Fg) (μ : List Addr) (H : Hp) (μ' : List Addr) (H' : Hp) : Prop where
  pre : ∃ l, μ' = μ ++ l ∧ ∀ a ∈ l, H a = none
  alive : ∀ a, H' a = none → H a = none
  fr : ∀ a o, H a = some o → a ∉ μ → H' a = some o
  tup : ∀ a xs, SqN K H a xs → SqN K H' a xs
  fix : ∀ a xs, Fix K H a xs → Fix K H' a xs
theorem Ext.refl : Ext K μ H μ H := ⟨⟨[], by simp, fun a h => nomatch h⟩, fun _ h => h, fun _ _ h _ => h, fun _ _ h => h, fun _ _ h => h⟩
theorem Ext.trans (a : Ext K μ H μ1 H1) (b : Ext K μ1 H1 μ2 H2) : Ext K μ H μ2 H2 := by
  obtain ⟨l, e, n⟩ := a.pre
  obtain ⟨l', e', n'⟩ := b.pre
  refine ⟨⟨l ++ l', by rw [e', e, List.append_assoc], fun c hc => ?_⟩, fun c h => a.alive c (b.alive c h), fun c o h hc => ?_, fun c xs h => b.tup c xs (a.tup c xs h), fun c xs h => b.fix c xs (a.fix c xs h)⟩
  · rcases List.mem_append.mp hc with h | h
    · exact n c h
    · exact a.alive c (n' c h)
  · refine b.fr c o (a.fr c o h hc) fun hm => ?_
    rw [e] at hm
    rcases List.mem_append.mp hm with hm | hm
    · exact hc hm
    · rw [n c hm] at h; cases h
theorem Ext.get (e : Ext K μ H μ' H') {i : Nat} {a : Addr} (h : μ[i]? = some a) : μ'[i]? = some a := by
  obtain ⟨l, rfl, _⟩ := e.pre
  rw [List.getElem?_append_left (List.getElem?_eq_some_iff.mp h).1]
  exact h
theorem Ext.len (e : Ext K μ H μ' H') : μ.length ≤ μ'.length := by
  obtain ⟨l, rfl, _⟩ := e.pre
  rw [List.length_append]
  omega

/-- what is represented stays represented -/
structure Le (K : Fg) (μ : List Addr) (H : Hp) (μ' : List Addr) (H' : Hp) : Prop where
  get : ∀ (i : Nat) a, μ[i]? = some a → μ'[i]? = some a
  tup : ∀ a xs, SqN K H a xs → SqN K H' a xs
  fix : ∀ a xs, Fix K H a xs → Fix K H' a xs
theorem Ext.le (e : Ext K μ H μ' H') : Le K μ H μ' H' := ⟨fun _ _ h => e.get h, e.tup, e.fix⟩
theorem Le.more (l : List Addr) : Le K μ H (μ ++ l) H := ⟨fun i a h => by
  rw [List.getElem?_append_left (List.getElem?_eq_some_iff.mp h).1]
  exact h, fun _ _ h => h, fun _ _ h => h⟩
mutual
theorem Rp.le (e : Le K μ H μ' H') : ∀ (d : D) (v : V), Rp K μ H d v → Rp K μ' H' d v
  | .non, _, h => h
  | .bl _, _, h => h
  | .int _, _, h => h
  | .str _, _, h => h
  | .tup ds, _, ⟨a, vs, h1, h2, h3, h4⟩ => ⟨a, vs, h1, e.tup _ _ h2, RpA.le e ds vs h3, h4⟩
  | .ref _, _, ⟨a, h1, h2⟩ => ⟨a, h1, e.get _ _ h2⟩
  | .fix ds, _, ⟨a, vs, h1, h2, h3, h4⟩ => ⟨a, vs, h1, e.fix _ _ h2, RpA.le e ds vs h3, h4⟩
theorem RpA.le (e : Le K μ H μ' H') : ∀ (ds : List D) (vs : List V), RpA K μ H ds vs → RpA K μ' H' ds vs
  | [], _, h => h
  | d :: ds, _, ⟨v, r, h1, h2, h3⟩ => ⟨v, r, h1, Rp.le e d v h2, RpA.le e ds r h3⟩
end
theorem Rp.mono (e : Ext K μ H μ' H') {d : D} {v : V} (h : Rp K μ H d v) : Rp K μ' H' d v := Rp.le e.le d v h
theorem RpA.mono (e : Ext K μ H μ' H') {ds : List D} {vs : List V} (h : RpA K μ H ds vs) : RpA K μ' H' ds vs := RpA.le e.le ds vs h
theorem RpA.nil : RpA K μ H [] [] := rfl
theorem RpA.cons {d : D} {v : V} {ds : List D} {vs : List V} (h : Rp K μ H d v) (t : RpA K μ H ds vs) : RpA K μ H (d :: ds) (v :: vs) := ⟨v, vs, rfl, h, t⟩
theorem RpA.length : ∀ {ds : List D} {vs : List V}, RpA K μ H ds vs → ds.length = vs.length
  | [], _, h => by rw [h]; rfl
  | _ :: ds, _, ⟨v, r, h1, _, h3⟩ => by rw [h1, List.length_cons, List.length_cons, RpA.length h3]
theorem RpA.get : ∀ {ds : List D} {vs : List V} {i : Nat} {d : D}, RpA K μ H ds vs → ds[i]? = some d → ∃ v, vs[i]? = some v ∧ Rp K μ H d v
  | d :: ds, _, 0, _, ⟨v, r, h1, h2, _⟩, e => by
    cases e
    exact ⟨v, by rw [h1]; rfl, h2⟩
  | _ :: ds, _, i + 1, d, ⟨v, r, h1, _, h3⟩, e => by
    obtain ⟨x, e1, e2⟩ := RpA.get (i := i) h3 e
    exact ⟨x, by rw [h1]; exact e1, e2⟩
theorem RpA.getV : ∀ {ds : List D} {vs : List V} {i : Nat} {v : V}, RpA K μ H ds vs → vs[i]? = some v → ∃ d, ds[i]? = some d ∧ Rp K μ H d v
  | [], _, _, _, h, e => by rw [h] at e; cases e
  | d :: ds, _, 0, _, ⟨v, r, h1, h2, _⟩, e => by
    rw [h1] at e
    cases e
    exact ⟨d, rfl, h2⟩
  | _ :: ds, _, i + 1, v, ⟨_, r, h1, _, h3⟩, e => by
    rw [h1] at e
    obtain ⟨x, e1, e2⟩ := RpA.getV (i := i) h3 e
    exact ⟨x, e1, e2⟩
theorem RpA.append : ∀ {ds es : List D} {vs us : List V}, RpA K μ H ds vs → RpA K μ H es us → RpA K μ H (ds ++ es) (vs ++ us)
  | [], _, _, _, h, t => by rw [h]; exact t
  | _ :: ds, _, _, _, ⟨v, r, h1, h2, h3⟩, t => by rw [h1]; exact ⟨v, _, rfl, h2, RpA.append h3 t⟩
theorem RpA.set {d : D} {v : V} (hd : Rp K μ H d v) : ∀ {ds : List D} {vs : List V} (i : Nat), RpA K μ H ds vs → RpA K μ H (ds.set i d) (vs.set i v)
  | [], _, _, h => by rw [h]; exact rfl
  | _ :: ds, _, 0, ⟨w, r, h1, h2, h3⟩ => by rw [h1]; exact ⟨v, r, rfl, hd, h3⟩
  | _ :: ds, _, i + 1, ⟨w, r, h1, h2, h3⟩ => by rw [h1]; exact ⟨w, _, rfl, h2, RpA.set hd i h3⟩
theorem RpA.take : ∀ {ds : List D} {vs : List V} (n : Nat), RpA K μ H ds vs → RpA K μ H (ds.take n) (vs.take n)
  | _, _, 0, _ => rfl
  | [], _, _ + 1, h => by rw [h]; exact rfl
  | _ :: ds, _, n + 1, ⟨w, r, h1, h2, h3⟩ => by rw [h1]; exact ⟨w, _, rfl, h2, RpA.take n h3⟩
theorem RpA.drop : ∀ {ds : List D} {vs : List V} (n : Nat), RpA K μ H ds vs → RpA K μ H (ds.drop n) (vs.drop n)
  | _, _, 0, h => h
  | [], _, _ + 1, h => by rw [h]; exact rfl
  | _ :: ds, _, n + 1, ⟨w, r, h1, h2, h3⟩ => by rw [h1]; exact RpA.drop n h3
theorem RpA.eraseIdx : ∀ {ds : List D} {vs : List V} (n : Nat), RpA K μ H ds vs → RpA K μ H (ds.eraseIdx n) (vs.eraseIdx n)
  | [], _, _, h => by rw [h]; exact rfl
  | _ :: ds, _, 0, ⟨w, r, h1, h2, h3⟩ => by rw [h1]; exact h3
  | _ :: ds, _, n + 1, ⟨w, r, h1, h2, h3⟩ => by rw [h1]; exact ⟨w, _, rfl, h2, RpA.eraseIdx n h3⟩
theorem RpA.reverse : ∀ {ds : List D} {vs : List V}, RpA K μ H ds vs → RpA K μ H ds.reverse vs.reverse
  | [], _, h => by rw [h]; exact rfl
  | d :: ds, _, ⟨w, r, h1, h2, h3⟩ => by
    rw [h1, List.reverse_cons, List.reverse_cons]
    exact RpA.append (RpA.reverse h3) (.cons h2 .nil)

/-- a dict's pairs -/
def RpK (K : Fg) (μ : List Addr) (H : Hp) : List (Key × D) → List (Key × V) → Prop
  | [], vs => vs = []
  | kd :: r, vs => ∃ v t, vs = (kd.1, v) :: t ∧ Rp K μ H kd.2 v ∧ RpK K μ H r t
theorem RpK.le (e : Le K μ H μ' H') : ∀ (ks : List (Key × D)) (vs : List (Key × V)), RpK K μ H ks vs → RpK K μ' H' ks vs
  | [], _, h => h
  | kd :: r, _, ⟨v, t, h1, h2, h3⟩ => ⟨v, t, h1, Rp.le e kd.2 v h2, RpK.le e r t h3⟩
theorem RpK.mono (e : Ext K μ H μ' H') {ks : List (Key × D)} {vs : List (Key × V)} (h : RpK K μ H ks vs) : RpK K μ' H' ks vs := RpK.le e.le ks vs h
theorem RpK.length : ∀ {ks : List (Key × D)} {vs : List (Key × V)}, RpK K μ H ks vs → ks.length = vs.length
  | [], _, h => by rw [h]; rfl
  | _ :: ks, _, ⟨v, r, h1, _, h3⟩ => by rw [h1, List.length_cons, List.length_cons, RpK.length h3]
/-- what a dict holds at a key; a dict with a key put in -/
def gD : List (Key × D) → Key → Option D
  | [], _ => none
  | (j, d) :: r, k => if j = k then some d else gD r k
def pD : List (Key × D) → Key → D → List (Key × D)
  | [], k, d => [(k, d)]
  | (j, e) :: r, k, d => if j = k then (j, d) :: r else (j, e) :: pD r k d
theorem putK_cons (j k : Key) (v w : V) (r : List (Key × V)) (hn : (r.any fun kv => decide (kv.1 = j)) = false) : putK ((j, w) :: r) k v = if j = k then (j, v) :: r else (j, w) :: putK r k v := by
  unfold putK
  by_cases e : j = k
  · subst e
    rw [if_pos (by simp), if_pos rfl, List.map_cons, if_pos rfl]
    congr 1
    rw [List.any_eq_false] at hn
    conv => rhs; rw [← List.map_id r]
    exact List.map_congr_left fun kv hkv => by
      rw [if_neg (by simpa using hn kv hkv)]
      rfl
  · rw [if_neg e]
    by_cases h : (r.any fun kv => decide (kv.1 = k)) = true
    · rw [if_pos (by simp only [List.any_cons, h, Bool.or_true]), if_pos h, List.map_cons, if_neg e]
    · rw [if_neg (by simp only [List.any_cons, Bool.or_eq_true, decide_eq_true_eq]; exact fun q => q.elim e h), if_neg h]
      rfl
/-- no key twice -/
def Nk : List (Key × D) → Prop
  | [] => True
  | (j, _) :: r => gD r j = none ∧ Nk r
theorem gD_pD : ∀ (ks : List (Key × D)) (k j : Key) (d : D), gD (pD ks k d) j = if k = j then some d else gD ks j
  | [], k, j, d => by show (if k = j then some d else none) = _; rfl
  | (i, e) :: r, k, j, d => by
    unfold pD
    by_cases h : i = k
    · rw [if_pos h]
      subst h
      unfold gD
      by_cases h2 : i = j
      · rw [if_pos h2, if_pos h2]
      · rw [if_neg h2, if_neg h2, if_neg h2]
    · rw [if_neg h]
      unfold gD
      rw [gD_pD r k j d]
      by_cases h2 : i = j
      · subst h2
        rw [if_pos rfl, if_pos rfl, if_neg (fun z => h z.symm)]
      · rw [if_neg h2, if_neg h2]
theorem Nk.put : ∀ {ks : List (Key × D)} (k : Key) (d : D), Nk ks → Nk (pD ks k d)
  | [], _, _, _ => ⟨rfl, trivial⟩
  | (i, e) :: r, k, d, ⟨h1, h2⟩ => by
    unfold pD
    by_cases h : i = k
    · rw [if_pos h]
      exact ⟨h1, h2⟩
    · rw [if_neg h]
      refine ⟨?_, h2.put k d⟩
      rw [gD_pD, if_neg (fun z => h z.symm)]
      exact h1
theorem pD_length : ∀ (ks : List (Key × D)) (k : Key) (d : D), (pD ks k d).length ≤ ks.length + 1
  | [], _, _ => Nat.le_refl _
  | (i, e) :: r, k, d => by
    unfold pD
    split
    · rw [List.length_cons, List.length_cons]; omega
    · rw [List.length_cons, List.length_cons]
      have := pD_length r k d
      omega
theorem RpK.get : ∀ {ks : List (Key × D)} {vs : List (Key × V)} (k : Key), RpK K μ H ks vs → match gD ks k, valV vs k with
    | some d, some v => Rp K μ H d v
    | none, none => True
    | _, _ => False
  | [], _, k, h => by rw [show _ = [] from h]; exact trivial
  | (j, d) :: r, _, k, ⟨v, t, h1, h2, h3⟩ => by
    rw [h1]
    unfold gD
    by_cases e : j = k
    · rw [if_pos e, valV_pos (p := (j, v)) e]
      exact h2
    · rw [if_neg e, valV_neg (p := (j, v)) e]
      exact RpK.get k h3
theorem RpK.getS {ks : List (Key × D)} {vs : List (Key × V)} {k : Key} {d : D} (h : RpK K μ H ks vs) (e : gD ks k = some d) : ∃ v, valV vs k = some v ∧ Rp K μ H d v := by
  have := h.get k
  rw [e] at this
  cases q : valV vs k with
  | none => rw [q] at this; exact this.elim
  | some v => rw [q] at this; exact ⟨v, rfl, this⟩
theorem RpK.getN {ks : List (Key × D)} {vs : List (Key × V)} {k : Key} (h : RpK K μ H ks vs) (e : gD ks k = none) : valV vs k = none := by
  have := h.get k
  rw [e] at this
  cases q : valV vs k with
  | none => rfl
  | some v => rw [q] at this; exact this.elim
theorem RpK.isSome {ks : List (Key × D)} {vs : List (Key × V)} (h : RpK K μ H ks vs) (k : Key) : (valV vs k).isSome = (gD ks k).isSome := by
  cases e : gD ks k with
  | none => rw [h.getN e]; rfl
  | some d => obtain ⟨v, q, _⟩ := h.getS e; rw [q]; rfl
theorem RpK.put {k : Key} {d : D} {v : V} (rd : Rp K μ H d v) : ∀ {ks : List (Key × D)} {vs : List (Key × V)}, Nk ks → RpK K μ H ks vs → RpK K μ H (pD ks k d) (putK vs k v)
  | [], _, _, h => by rw [show _ = [] from h]; exact ⟨v, [], rfl, rd, rfl⟩
  | (j, e) :: r, _, ⟨n1, n2⟩, ⟨w, t, h1, h2, h3⟩ => by
    rw [h1, putK_cons _ _ _ _ _ (by
      rw [valV_any, h3.getN n1]
      rfl)]
    unfold pD
    by_cases q : j = k
    · rw [if_pos q, if_pos q]
      exact ⟨v, t, rfl, rd, h3⟩
    · rw [if_neg q, if_neg q]
      exact ⟨w, _, rfl, h2, h3.put rd n2⟩
/-- an object of the store as it stands -/
def ObR (K : Fg) (μ : List Addr) (H : Hp) : Ob → Addr → Prop
  | .lst ds, a => ∃ vs, H a = some (.lst vs) ∧ RpA K μ H ds vs ∧ ds.length ≤ sizeLine
  | .dic ks, a => ∃ vs, H a = some (.dK vs) ∧ RpK K μ H ks vs ∧ ks.length ≤ sizeLine ∧ Nk ks
structure StOk (K : Fg) (μ : List Addr) (H : Hp) (S : Sto) : Prop where
  len : μ.length = S.length
  nd : μ.Nodup
  ob : ∀ (i : Nat) o a, S[i]? = some o → μ[i]? = some a → ObR K μ H o a
theorem ObR.some {o : Ob} {a : Addr} (h : ObR K μ H o a) : ∃ u, H a = some u ∧ (∀ xs, u ≠ .tup xs) ∧ ∀ b xs, u ≠ .frz b xs := by
  cases o with
  | lst ds =>
    obtain ⟨vs, e, _⟩ := h
    exact ⟨.lst vs, e, fun _ => (fun z => by cases z), fun _ _ => (fun z => by cases z)⟩
  | dic ks =>
    obtain ⟨vs, e, _⟩ := h
    exact ⟨.dK vs, e, fun _ => (fun z => by cases z), fun _ _ => (fun z => by cases z)⟩
theorem StOk.mem (h : StOk K μ H S) {a : Addr} (m : a ∈ μ) : ∃ u, H a = some u ∧ (∀ xs, u ≠ .tup xs) ∧ ∀ b xs, u ≠ .frz b xs := by
  obtain ⟨i, e⟩ := List.mem_iff_getElem?.mp m
  have hi : i < S.length := by
    rw [← h.len]
    exact (List.getElem?_eq_some_iff.mp e).1
  exact (h.ob i S[i] a (List.getElem?_eq_getElem hi) e).some
/-- from what was changed alone -/
theorem StOk.ext (h : StOk K μ H S) (pre : ∃ l, μ' = μ ++ l ∧ ∀ a ∈ l, H a = none) (alive : ∀ a, H' a = none → H a = none) (fr : ∀ a o, H a = some o → a ∉ μ → H' a = some o) : Ext K μ H μ' H' := by
  refine ⟨pre, alive, fr, fun a xs q => ?_, fun a xs q => ?_⟩
  · rcases q with ⟨o, q, c1, c2⟩ | q
    · refine .inl ⟨o, fr _ _ q fun m => ?_, c1, c2⟩
      obtain ⟨u, e, _, n2⟩ := h.mem m
      rw [q] at e
      exact n2 _ _ (Option.some.inj e).symm
    · exact .inr q
  · rcases q with ⟨o, q⟩ | q
    · refine .inl ⟨o, fr _ _ q fun m => ?_⟩
      obtain ⟨u, e, _, n2⟩ := h.mem m
      rw [q] at e
      exact n2 _ _ (Option.some.inj e).symm
    · exact .inr q
/-- a new thing that the store does not know -/
theorem StOk.fresh (h : StOk K μ H S) {p : Addr} (hp : H p = none) (o : HO) : Ext K μ H μ (upd H p o) :=
  h.ext ⟨[], by simp, fun a z => nomatch z⟩ (fun a z => by
    by_cases e : a = p
    · rw [e]; exact hp
    · rw [upd_ne e] at z; exact z) fun a u z _ => by rw [upd_ne (ne_of_none z hp)]; exact z
theorem ObR.le {o : Ob} {a : Addr} (e : Le K μ H μ' H') (q : H' a = H a) (h : ObR K μ H o a) : ObR K μ' H' o a := by
  cases o with
  | lst ds =>
    obtain ⟨vs, e1, e2, e3⟩ := h
    exact ⟨vs, q.trans e1, RpA.le e ds vs e2, e3⟩
  | dic ks =>
    obtain ⟨vs, e1, e2, e3, e4⟩ := h
    exact ⟨vs, q.trans e1, RpK.le e ks vs e2, e3, e4⟩
theorem StOk.freshOk (h : StOk K μ H S) {p : Addr} (hp : H p = none) (o : HO) : StOk K μ (upd H p o) S :=
  ⟨h.len, h.nd, fun i ob a e1 e2 => (h.ob i ob a e1 e2).le (h.fresh hp o).le (by
    obtain ⟨u, e, _⟩ := h.mem (List.mem_of_getElem? e2)
    rw [upd_ne (ne_of_none e hp)])⟩
/-- a thing of one's own that the store takes up -/
theorem StOk.takeO (h : StOk K μ H S) {p : Addr} {ob : Ob} (hp : p ∉ μ) (r : ObR K μ H ob p) : StOk K (μ ++ [p]) H (S ++ [ob]) := by
  refine ⟨by rw [List.length_append, List.length_append, h.len]; rfl, ?_, fun i o a e1 e2 => ?_⟩
  · rw [List.nodup_append]
    exact ⟨h.nd, by simp, fun a ha b hb z => by
      have : b = p := by simpa using hb
      rw [z, this] at ha
      exact hp ha⟩
  · by_cases hi : i < S.length
    · rw [List.getElem?_append_left hi] at e1
      rw [List.getElem?_append_left (by rw [h.len]; exact hi)] at e2
      exact (h.ob i o a e1 e2).le (Le.more [p]) rfl
    · have hi2 : i = S.length := by
        have := (List.getElem?_eq_some_iff.mp e1).1
        rw [List.length_append] at this
        simp at this
        omega
      subst hi2
      rw [List.getElem?_append_right (Nat.le_refl _), Nat.sub_self] at e1
      rw [← h.len, List.getElem?_append_right (Nat.le_refl _), Nat.sub_self] at e2
      cases e1
      cases e2
      exact r.le (Le.more [p]) rfl
theorem StOk.take (h : StOk K μ H S) {p : Addr} {vs : List V} {ds : List D} (hp : p ∉ μ) (hv : H p = some (.lst vs)) (r : RpA K μ H ds vs) (hz : ds.length ≤ sizeLine) : StOk K (μ ++ [p]) H (S ++ [.lst ds]) := h.takeO hp ⟨vs, hv, r, hz⟩
theorem Ext.take (e : Ext K μ H μ1 H1) {p : Addr} (hp : H p = none) : Ext K μ H (μ1 ++ [p]) H1 := by
  obtain ⟨l, rfl, n⟩ := e.pre
  refine ⟨⟨l ++ [p], by rw [List.append_assoc], fun a ha => ?_⟩, e.alive, e.fr, e.tup, e.fix⟩
  rcases List.mem_append.mp ha with h | h
  · exact n a h
  · have : a = p := by simpa using h
    rw [this]; exact hp
/-- a thing of the store is changed -/
theorem StOk.putE (h : StOk K μ H S) {i : Nat} {p : Addr} (u : HO) (hi : μ[i]? = some p) : Ext K μ H μ (upd H p u) := by
  have hm : p ∈ μ := List.mem_of_getElem? hi
  exact h.ext ⟨[], by simp, fun a z => nomatch z⟩ (fun a z => by
    by_cases e : a = p
    · rw [e, upd_same] at z; cases z
    · rw [upd_ne e] at z; exact z) fun a u z q => by
      rw [upd_ne (fun e => q (by rw [e]; exact hm))]
      exact z
theorem StOk.putO (h : StOk K μ H S) {i : Nat} {p : Addr} {u : HO} {ob : Ob} (hi : μ[i]? = some p) (r : ObR K μ (upd H p u) ob p) : StOk K μ (upd H p u) (S.set i ob) := by
  have ex := h.putE u hi
  refine ⟨by rw [List.length_set]; exact h.len, h.nd, fun j o a e1 e2 => ?_⟩
  by_cases hj : i = j
  · subst hj
    rw [hi] at e2
    cases e2
    rw [List.getElem?_set_self (by rw [← h.len]; exact (List.getElem?_eq_some_iff.mp hi).1)] at e1
    cases e1
    exact r
  · rw [List.getElem?_set_ne hj] at e1
    have hne : a ≠ p := fun z => hj (by
      rw [z] at e2
      obtain ⟨h1, q1⟩ := List.getElem?_eq_some_iff.mp hi
      obtain ⟨h2, q2⟩ := List.getElem?_eq_some_iff.mp e2
      exact (List.getElem_inj h.nd).mp (q1.trans q2.symm))
    exact (h.ob j o a e1 e2).le ex.le (upd_ne hne)
theorem StOk.put (h : StOk K μ H S) {i : Nat} {p : Addr} {vs : List V} {ds : List D} (hi : μ[i]? = some p) (r : RpA K μ H ds vs) (hz : ds.length ≤ sizeLine) : Ext K μ H μ (upd H p (.lst vs)) ∧ StOk K μ (upd H p (.lst vs)) (S.set i (.lst ds)) :=
  ⟨h.putE _ hi, h.putO hi ⟨vs, upd_same, r.mono (h.putE _ hi), hz⟩⟩
theorem StOk.dic (h : StOk K μ H S) {i : Nat} {a : Addr} {ks : List (Key × D)} (e1 : S[i]? = some (.dic ks)) (e2 : μ[i]? = some a) : ∃ vs, H a = some (.dK vs) ∧ RpK K μ H ks vs ∧ ks.length ≤ sizeLine ∧ Nk ks := h.ob i _ a e1 e2
theorem StOk.lst (h : StOk K μ H S) {i : Nat} {a : Addr} {ds : List D} (e1 : S[i]? = some (.lst ds)) (e2 : μ[i]? = some a) : ∃ vs, H a = some (.lst vs) ∧ RpA K μ H ds vs ∧ ds.length ≤ sizeLine := h.ob i _ a e1 e2
end
end PQ

/-! The language: its syntax and what it says. -/
namespace PQ
open PySem PySem.Spec PyProof.Rows L2

inductive Res (α : Type) where
  | ok (a : α) (S : Sto)
  | exc (c : Str) (fs : List (Str × D)) (S : Sto)
  | bad
def Res.bind {α β : Type} : Res α → (α → Sto → Res β) → Res β
  | .ok a S, f => f a S
  | .exc c fs S, _ => .exc c fs S
  | .bad, _ => .bad
/-- a wish that is granted, or nothing -/
noncomputable def ask {α : Type} (p : Prop) (r : Res α) : Res α := open Classical in if p then r else .bad
def may {α β : Type} (o : Option α) (f : α → Res β) : Res β := match o with
  | some a => f a
  | none => .bad

inductive Bop | add | sub | mul | fdiv | mod | pow | shl | shr | band | bor | bxor
inductive Cop | eq | ne | lt | le | gt | ge
inductive Ag | len | sum | all | any | min | max | tuple
inductive F1 | int | abs | str
inductive F2 | min | max | gcd
inductive Ty | int | bool | str | tuple
/-- targets: a name, a row of names -/
inductive CN
  | nm (i : Nat)
  | tup (is : List Nat)

mutual
inductive CE where
  | var (i : Nat)
  | lit (d : D)
  | tup (es : CEs)
  | alloc (q : CQ)
  | bin (o : Bop) (a b : CE)
  | neg (a : CE)
  | cmp (o : Cop) (a b : CE)
  | chn (o p : Cop) (a b c : CE)
  | isN (a : CE)
  | notN (a : CE)
  | inr (a : CE) (r : CR)
  | notInr (a : CE) (r : CR)
  | and (a b : CE)
  | or (a b : CE)
  | not (a : CE)
  | ife (t : CT) (a b : CE)
  | idx (a i : CE)
  | slc (a : CE) (lo hi : CO)
  | call (f : Nat) (es : CEs)
  | fn1 (f : F1) (a : CE)
  | fn2 (f : F2) (a b : CE)
  | agg (f : Ag) (r : CR)
  | isi (a : CE) (t : Ty)
  | app (l x : CE)
  | ext (l : CE) (r : CR)
  | pop (l : CE)
  | popAt (l i : CE)
  | join (s : Str) (r : CR)
  | tix (a i : CE)
  | ins (l i x : CE)
  | dnew
  | dget (a k x : CE)
inductive CO where
  | none
  | some (e : CE)
inductive CEs where
  | nil
  | cons (a : CE) (r : CEs)
inductive CQ where
  | disp (es : CEs)
  | comp (own : List Nat) (g : CN) (it : CI) (elt : CE)
  | compIf (own : List Nat) (g : CN) (it : CI) (t : CT) (elt : CE)
  | cat (a b : CR)
  | sorted (r : CR)
  | list (r : CR)
  | listRg (a b : CE)
  | rev (r : CR)
inductive CR where
  | q (c : CQ)
  | e (c : CE)
inductive CI where
  | r (c : CR)
  | rg (a b : CE)
  | rgd (a b : CE)
inductive CT where
  | v (e : CE)
  | and (a b : CT)
  | or (a b : CT)
  | not (a : CT)
end
mutual
inductive CS where
  | set (g : CN) (e : CE)
  | par (i j : Nat) (a b : CE)
  | sub (o i e : CE)
  | aug (i : Nat) (o : Bop) (e : CE)
  | augS (o i : CE) (p : Bop) (e : CE)
  | ex (e : CE)
  | ret (e : CE)
  | ite (t : CT) (a b : CSs)
  | for (g : CN) (it : CI) (b : CSs)
  | while (t : CT) (b : CSs)
  | brk
  | cont
  | pass
  | raise
inductive CSs where
  | nil
  | cons (s : CS) (r : CSs)
end

/-! ### values -/
mutual
/-- pure data of a value; f: of the store's lists -/
def toPW (f : Nat → Option PyData) : D → Option PyData
  | .non => some .none
  | .bl b => some (.bool b)
  | .int i => some (.int i)
  | .str x => some (.str x)
  | .tup ds => (toPsW f ds).map .tuple
  | .fix ds => (toPsW f ds).map .list
  | .ref i => f i
def toPsW (f : Nat → Option PyData) : List D → Option (List PyData)
  | [] => some []
  | d :: ds => match toPW f d, toPsW f ds with
    | some p, some ps => some (p :: ps)
    | _, _ => none
end
/-- the store's lists by their contents, at most n deep -/
def refP (S : Sto) : Nat → Nat → Option PyData
  | 0, _ => none
  | n + 1, i => match S[i]? with
    | some (.lst ds) => (toPsW (refP S n) ds).map .list
    | _ => none
def toP (S : Sto) (d : D) : Option PyData := toPW (refP S 8) d
def toPs (S : Sto) (ds : List D) : Option (List PyData) := toPsW (refP S 8) ds

def scalD : D → D → Bool
  | .non, .non => true | .non, .int _ => true | .int _, .non => true | .non, .bl _ => true | .bl _, .non => true | .non, .str _ => true | .str _, .non => true
  | .int _, .int _ => true | .bl _, .bl _ => true | .str _, .str _ => true
  | .int _, .str _ => true | .str _, .int _ => true | .bl _, .str _ => true | .str _, .bl _ => true
  | _, _ => false
def eqSc : D → D → Bool
  | .non, .non => true
  | .int i, .int j => decide (i = j)
  | .bl i, .bl j => decide (i = j)
  | .str i, .str j => decide (i = j)
  | _, _ => false
def dEq (S : Sto) (x y : D) : Option Bool :=
  if scalD x y = true then some (eqSc x y) else match toP S x, toP S y with
    | some p, some q => if (shp p && shp q) = true then some (PyData.eqv p q) else none
    | _, _ => none
def tru (S : Sto) : D → Option Bool
  | .non => some false
  | .bl b => some b
  | .int i => some (i != 0)
  | .str x => if x.length ≤ sizeLine then some (x.length != 0) else none
  | .tup ds => some (!ds.isEmpty)
  | .fix ds => some (!ds.isEmpty)
  | .ref i => match S[i]? with
    | some (.lst ds) => some (!ds.isEmpty)
    | _ => none
def FDivOk (i j : Int) : Prop := j ≠ 0 ∧ Builtin.divisionGoesByPylong i j = false
noncomputable def binD (o : Bop) (x y : D) (S : Sto) : Res D :=
  match o, x, y with
  | .add, .int i, .int j => .ok (.int (i + j)) S
  | .add, .int i, .bl b => .ok (.int (i + if b = true then 1 else 0)) S
  | .add, .str a, .str b => ask (a.length + b.length ≤ sizeLine) (.ok (.str (a ++ b)) S)
  | .add, .tup a, .tup b => ask (a.length + b.length ≤ sizeLine) (.ok (.tup (a ++ b)) S)
  | .add, .ref i, .ref j => match S[i]?, S[j]? with
    | some (.lst a), some (.lst b) => ask (a.length + b.length ≤ sizeLine) (.ok (.ref S.length) (S ++ [.lst (a ++ b)]))
    | _, _ => .bad
  | .sub, .int i, .int j => .ok (.int (i - j)) S
  | .mul, .int i, .int j => ask (IntMulOk i j) (.ok (.int (i * j)) S)
  | .mul, .ref i, .int k => match S[i]? with
    | some (.lst a) => ask (-(2 ^ 63) ≤ k ∧ k < 2 ^ 63 ∧ a.length * k.toNat ≤ sizeLine) (.ok (.ref S.length) (S ++ [.lst (List.replicate k.toNat a).flatten]))
    | _ => .bad
  | .mul, .str a, .int k => ask (MulOk a k) (.ok (.str (Txt.mul a k)) S)
  | .fdiv, .int i, .int j => ask (FDivOk i j) (.ok (.int (i.fdiv j)) S)
  | .mod, .int i, .int j => ask (j ≠ 0) (.ok (.int (i.fmod j)) S)
  | .pow, .int i, .int j => ask (CPow i j) (.ok (.int (i ^ j.toNat)) S)
  | .shl, .int i, .int j => ask (CPow i j) (.ok (.int (i * 2 ^ j.toNat)) S)
  | .shr, .int i, .int j => ask (0 ≤ j) (.ok (.int (i / 2 ^ j.toNat)) S)
  | .band, .int i, .int j => .ok (.int (Builtin.bitAnd i j)) S
  | .bor, .int i, .int j => .ok (.int (Builtin.bitOr i j)) S
  | .bxor, .int i, .int j => .ok (.int (Builtin.bitXor i j)) S
  | _, _, _ => .bad
def augD (o : Bop) (x y : D) (S : Sto) : Res D :=
  match o, x, y with
  | .add, .int i, .int j => .ok (.int (i + j)) S
  | .sub, .int i, .int j => .ok (.int (i - j)) S
  | .add, .str a, .str b => if a.length + b.length ≤ sizeLine then .ok (.str (a ++ b)) S else .bad
  | _, _, _ => .bad
def isNon : D → Bool
  | .non => true
  | _ => false
/-- the order of data -/
def ordP (o : Cop) (p q : PyData) : Bool := match o with
  | .lt => PySem.W.dataLt p q
  | .gt => PySem.W.dataLt q p
  | .le => !PySem.W.dataLt q p
  | .ge => !PySem.W.dataLt p q
  | _ => false
def ordD (o : Cop) (x y : D) (S : Sto) : Res D := match toP S x, toP S y with
  | some p, some q => if cmpOk p q = true then .ok (.bl (ordP o p q)) S else .bad
  | _, _ => .bad
def cmpI (o : Cop) (f : Int → Int → Bool) (x y : D) (S : Sto) : Res D := match x, y with
  | .int i, .int j => .ok (.bl (f i j)) S
  | x, y => ordD o x y S
def cmpD (o : Cop) (x y : D) (S : Sto) : Res D :=
  match o with
  | .eq => may (dEq S x y) fun b => .ok (.bl b) S
  | .ne => may (dEq S x y) fun b => .ok (.bl (!b)) S
  | .lt => cmpI .lt (fun i j => decide (i < j)) x y S
  | .le => cmpI .le (fun i j => decide (i ≤ j)) x y S
  | .gt => cmpI .gt (fun i j => decide (j < i)) x y S
  | .ge => cmpI .ge (fun i j => decide (j ≤ i)) x y S
/-- a walked thing: one's own list, or a value -/
inductive RV
  | own (ds : List D)
  | val (d : D)
/-- a list (tracked or fixed) by its items -/
def lsOf (S : Sto) : RV → Option (List D)
  | .own ds => some ds
  | .val (.fix ds) => some ds
  | .val (.ref i) => match S[i]? with
    | some (.lst ds) => some ds
    | _ => none
  | _ => none
/-- .. a list that may change -/
def trOf (S : Sto) : RV → Option (List D)
  | .own ds => some ds
  | .val (.ref i) => match S[i]? with
    | some (.lst ds) => some ds
    | _ => none
  | _ => none
/-- a dict by its pairs -/
def dicOf (S : Sto) : RV → Option (List (Key × D))
  | .val (.ref i) => match S[i]? with
    | some (.dic ks) => some ks
    | _ => none
  | _ => none
def keyOf : D → Option Key
  | .int i => some (.inl i)
  | .str x => some (.inr x)
  | _ => none
/-- .. or a tuple -/
def sqOf (S : Sto) : RV → Option (List D)
  | .val (.tup ds) => some ds
  | r => lsOf S r
def lenOf (S : Sto) (r : RV) : Option Nat := match sqOf S r with
  | some ds => some ds.length
  | none => (dicOf S r).map List.length
/-- .. what is sorted: a list, or a dict's texts -/
def strKeys : List (Key × D) → Option (List D)
  | [] => some []
  | (.inr x, _) :: r => (strKeys r).map (.str x :: ·)
  | (.inl _, _) :: _ => none
def soOf (S : Sto) (r : RV) : Option (List D) := match lsOf S r with
  | some ds => some ds
  | none => (dicOf S r).bind strKeys
/-- .. or a text by its letters -/
def lettersD (z : Str) : List D := z.cps.toList.map fun c => D.str ⟨#[c]⟩
def lstOf (S : Sto) (r : RV) : Option (List D) := match r with
  | .val (.str z) => if z.length ≤ sizeLine then some (lettersD z) else none
  | r => sqOf S r
def intsOf : List D → Option (List Int)
  | [] => some []
  | .int i :: r => (intsOf r).map (i :: ·)
  | _ => none
def boolsOf : List D → Option (List Bool)
  | [] => some []
  | .bl b :: r => (boolsOf r).map (b :: ·)
  | _ => none
def strsOf : List D → Option (List Str)
  | [] => some []
  | .str x :: r => (strsOf r).map (x :: ·)
  | _ => none
def greatest : List Int → Option Int
  | [] => none
  | [x] => some x
  | x :: r => (greatest r).map fun m => if x < m then m else x
def least : List Int → Option Int
  | [] => none
  | [x] => some x
  | x :: r => (least r).map fun m => if m < x then m else x
def aggD (f : Ag) (r : RV) (S : Sto) : Res D :=
  match f with
  | .len => match r with
    | .val (.str x) => if x.length ≤ sizeLine then .ok (.int x.length) S else .bad
    | r => may (lenOf S r) fun n => .ok (.int n) S
  | .sum => may (lsOf S r) fun ds => may (intsOf ds) fun ns => .ok (.int ns.sum) S
  | .all => may (lsOf S r) fun ds => may (boolsOf ds) fun bs => .ok (.bl (bs.all id)) S
  | .any => may (lsOf S r) fun ds => may (boolsOf ds) fun bs => .ok (.bl (bs.any id)) S
  | .max => may (lsOf S r) fun ds => may (intsOf ds) fun ns => may (greatest ns) fun m => .ok (.int m) S
  | .min => may (lsOf S r) fun ds => may (intsOf ds) fun ns => may (least ns) fun m => .ok (.int m) S
  | .tuple => may (sqOf S r) fun ds => .ok (.tup ds) S
def fn1D (f : F1) (x : D) (S : Sto) : Res D :=
  match f, x with
  | .int, .int i => .ok (.int i) S
  | .int, .bl b => .ok (.int (if b then 1 else 0)) S
  | .abs, .int i => .ok (.int (if i < 0 then -i else i)) S
  | .str, .int i => if i.natAbs.log2 < 1920 then .ok (.str (toString i)) S else .bad
  | _, _ => .bad
def fn2D (f : F2) (x y : D) (S : Sto) : Res D :=
  match f, x, y with
  | .min, .int i, .int j => .ok (.int (if j < i then j else i)) S
  | .max, .int i, .int j => .ok (.int (if j > i then j else i)) S
  | .gcd, .int i, .int j => .ok (.int ((Nat.gcd i.natAbs j.natAbs : Nat) : Int)) S
  | _, _, _ => .bad
def tyB (t : Ty) (S : Sto) : D → Option Bool
  | .non => some false
  | .bl _ => some (match t with | .int => true | .bool => true | _ => false)
  | .int _ => some (match t with | .int => true | _ => false)
  | .str _ => some (match t with | .str => true | _ => false)
  | .tup _ => some (match t with | .tuple => true | _ => false)
  | .fix _ => some false
  | .ref i => match S[i]? with
    | some (.lst _) => some false
    | _ => none
def idxD (x i : D) (S : Sto) : Res D :=
  match x, i with
  | .tup ds, .int i => may (atI ds i) fun d => .ok d S
  | .fix ds, .int i => may (atI ds i) fun d => .ok d S
  | .ref a, .int i => match S[a]? with
    | some (.lst ds) => may (atI ds i) fun d => .ok d S
    | some (.dic ks) => may (gD ks (.inl i)) fun d => .ok d S
    | none => .bad
  | .ref a, .str z => match S[a]? with
    | some (.dic ks) => may (gD ks (.inr z)) fun d => .ok d S
    | _ => .bad
  | .str z, .int i => if z.length ≤ sizeLine then may (atI z.cps.toList i) fun c => .ok (.str ⟨#[c]⟩) S else .bad
  | _, _ => .bad
def cutD (ds : List D) (lo hi : Option Int) : List D := (ds.drop (HT.sIx ds.length 0 lo)).take (HT.sIx ds.length ds.length hi - HT.sIx ds.length 0 lo)
def slcD (x : D) (lo hi : Option Int) (S : Sto) : Res D :=
  match x with
  | .tup ds => .ok (.tup (cutD ds lo hi)) S
  | .fix ds => .ok (.ref S.length) (S ++ [.lst (cutD ds lo hi)])
  | .ref a => match S[a]? with
    | some (.lst ds) => .ok (.ref S.length) (S ++ [.lst (cutD ds lo hi)])
    | _ => .bad
  | .str z => if z.length ≤ sizeLine then .ok (.str (cutS z lo hi)) S else .bad
  | _ => .bad
/-- a list of the store -/
def withL {α : Type} (S : Sto) (x : D) (f : Nat → List D → Res α) : Res α :=
  match x with
  | .ref a => match S[a]? with
    | some (.lst ds) => f a ds
    | _ => .bad
  | _ => .bad
/-- a dict of the store -/
def withD {α : Type} (S : Sto) (x : D) (f : Nat → List (Key × D) → Res α) : Res α :=
  match x with
  | .ref a => match S[a]? with
    | some (.dic ks) => f a ks
    | _ => .bad
  | _ => .bad
def isDic (S : Sto) : D → Bool
  | .ref a => match S[a]? with
    | some (.dic _) => true
    | _ => false
  | _ => false
def setD (x i v : D) (S : Sto) : Res Unit := if isDic S x = true then (withD S x fun a ks => may (keyOf i) fun k => if ks.length < sizeLine then .ok () (S.set a (.dic (pD ks k v))) else .bad) else withL S x fun a ds => match i with
  | .int i => may (ixN ds.length i) fun j => .ok () (S.set a (.lst (ds.set j v)))
  | _ => .bad
/-- what is changed at a place -/
def getD (x i : D) (S : Sto) : Res D := match x with
  | .ref _ => idxD x i S
  | _ => .bad
def dgetD (x k y : D) (S : Sto) : Res D := withD S x fun _ ks => may (keyOf k) fun k => .ok ((gD ks k).getD y) S
def appD (x v : D) (S : Sto) : Res D := withL S x fun a ds => if ds.length < sizeLine then .ok .non (S.set a (.lst (ds ++ [v]))) else .bad
def extD (x : D) (r : RV) (S : Sto) : Res D := withL S x fun a ds => may (trOf S r) fun es => if ds.length + es.length ≤ sizeLine then .ok .non (S.set a (.lst (ds ++ es))) else .bad
def popD (x : D) (S : Sto) : Res D := withL S x fun a ds => may ds[ds.length - 1]? fun d => .ok d (S.set a (.lst ds.dropLast))
def popAtD (x i : D) (S : Sto) : Res D := withL S x fun a ds => match i with
  | .int i => if -(2 ^ 63) ≤ i ∧ i < 2 ^ 63 then may (seqIndex? i ds.length) fun k => may ds[k]? fun d => .ok d (S.set a (.lst (ds.eraseIdx k))) else .bad
  | _ => .bad
def insD (x i v : D) (S : Sto) : Res D := withL S x fun a ds => match i with
  | .int i => if 0 ≤ i ∧ i < 2 ^ 63 ∧ ds.length < sizeLine then .ok .non (S.set a (.lst (ds.take i.toNat ++ [v] ++ ds.drop i.toNat))) else .bad
  | _ => .bad
/-- a target takes a value -/
def setAll : List Nat → List D → En → Option En
  | [], [], ρ => some ρ
  | i :: is, d :: ds, ρ => setAll is ds (ρ.set i (some d))
  | _, _, _ => none
def bindN (g : CN) (d : D) (ρ : En) (S : Sto) : Option En :=
  match g with
  | .nm i => some (ρ.set i (some d))
  | .tup is => (sqOf S (.val d)).bind fun ds => setAll is ds ρ
/-- flows -/
inductive Fl
  | nx (ρ : En)
  | bk (ρ : En)
  | ct (ρ : En)
  | rt (d : D)
/-- what is walked: the items, and whether the walked list must stand still -/
structure Itv where
  items : List D
  at_ : Option Nat
def Itv.still (t : Itv) (S : Sto) : Prop := match t.at_ with
  | none => True
  | some i => S[i]? = some (.lst t.items)
noncomputable def loopQ (C : Sto → Prop) (f : D → Sto → Res (Option D)) : List D → Sto → Res (List D)
  | [], S => ask (C S) (.ok [] S)
  | d :: ds, S => ask (C S) ((f d S).bind fun o S1 => (loopQ C f ds S1).bind fun r S2 => .ok (match o with | some x => x :: r | none => r) S2)
noncomputable def loopS (C : Sto → Prop) (f : D → En → Sto → Res Fl) : List D → En → Sto → Res Fl
  | [], ρ, S => ask (C S) (.ok (.nx ρ) S)
  | d :: ds, ρ, S => ask (C S) ((f d ρ S).bind fun fl S1 => match fl with
    | .nx ρ' => loopS C f ds ρ' S1
    | .ct ρ' => loopS C f ds ρ' S1
    | .bk ρ' => .ok (.nx ρ') S1
    | .rt d => .ok (.rt d) S1)
def whileS (t : En → Sto → Res Bool) (b : En → Sto → Res Fl) : Nat → En → Sto → Res Fl
  | 0, _, _ => .bad
  | n + 1, ρ, S => (t ρ S).bind fun c S1 => if c = true then (b ρ S1).bind fun fl S2 => (match fl with
      | .nx ρ' => whileS t b n ρ' S2
      | .ct ρ' => whileS t b n ρ' S2
      | .bk ρ' => .ok (.nx ρ') S2
      | .rt d => .ok (.rt d) S2) else .ok (.nx ρ) S1
def turns : Nat := 1000000000000
def wipeE (ρ : En) : List Nat → En
  | [] => ρ
  | v :: vs => (wipeE ρ vs).set v none
def rgD (i j : Int) : List D := (List.range (j - i).toNat).map fun k => D.int (i + (k : Nat))
/-- range(i, j, -1) -/
def rgdD (i j : Int) : List D := (List.range (i - j).toNat).map fun k => D.int (i - (k : Nat))
def bd62 (i : Int) : Prop := -(2 ^ 62) ≤ i ∧ i < 2 ^ 62
abbrev Orc := Nat → List D → Sto → Res D
def itOf (r : RV) (S : Sto) : Option Itv := match r with
  | .val (.str z) => some ⟨lettersD z, none⟩
  | .val (.ref i) => (sqOf S r).map fun ds => ⟨ds, some i⟩
  | r => (sqOf S r).map fun ds => ⟨ds, none⟩
def flatD : D → Bool
  | .non => true
  | .bl _ => true
  | .int _ => true
  | .str _ => true
  | _ => false
def eqF : D → D → Bool
  | .non, .non => true
  | .bl a, .bl b => a == b
  | .bl a, .int b => (if a then 1 else 0) == b
  | .int a, .bl b => a == (if b then 1 else 0)
  | .int a, .int b => a == b
  | .str a, .str b => a == b
  | _, _ => false
def inD (x : D) (r : RV) (S : Sto) : Option Bool := match sqOf S r with
  | some ds => if (flatD x && ds.all flatD) = true then some (ds.any fun y => eqF y x) else (match lsOf S r with
    | some ds => (match toP S x, toPs S ds with
      | some p, some ps => if (shp p && shp (.list ps)) = true then some (ps.any fun q => PyData.eqv q p) else none
      | _, _ => none)
    | none => none)
  | none => match dicOf S r, keyOf x with
    | some ks, some k => some (gD ks k).isSome
    | _, _ => none
/-- x.index(y), of data -/
def ixD (x y : D) (S : Sto) : Option Nat := match toP S x, toP S y with
  | some (.list ps), some p => if (shp p && shp (.list ps)) = true then ps.findIdx? (fun q => PyData.eqv q p) else none
  | some (.tuple ps), some p => if (shp p && shp (.list ps)) = true then ps.findIdx? (fun q => PyData.eqv q p) else none
  | _, _ => none
/-- t.index(i), of numbers, or of data -/
def tixD (ds : List D) (y : D) (S : Sto) : Res D := match y with
  | .int z => may (intsOf ds) fun ns => if z ∈ ns then .ok (.int ((ns.idxOf z : Nat) : Int)) S else .bad
  | y => may (ixD (.tup ds) y S) fun j => .ok (.int (j : Nat)) S
noncomputable def sortD (S : Sto) (ds : List D) : Res (List D) := match toPs S ds with
  | some ps => ask (PySem.W.AllAlike ps ∧ PySem.W.Sortable ps ∧ ∀ p ∈ ps, p.depth ≤ 64) (.ok (ds.mergeSort (PySem.W.dataLe false fun d => (toP S d).getD .none)) S)
  | none => .bad

mutual
noncomputable def evE (C : Orc) : CE → En → Sto → Res D
  | .var i, ρ, S => may ((ρ[i]?).bind id) fun d => .ok d S
  | .lit d, _, S => .ok d S
  | .tup es, ρ, S => (evEs C es ρ S).bind fun ds S1 => ask (ds.length ≤ sizeLine) (.ok (.tup ds) S1)
  | .alloc q, ρ, S => (evQ C q ρ S).bind fun ds S1 => .ok (.ref S1.length) (S1 ++ [.lst ds])
  | .bin o a b, ρ, S => (evE C a ρ S).bind fun x S1 => (evE C b ρ S1).bind fun y S2 => binD o x y S2
  | .neg a, ρ, S => (evE C a ρ S).bind fun x S1 => match x with
    | .int i => .ok (.int (-i)) S1
    | _ => .bad
  | .cmp o a b, ρ, S => (evE C a ρ S).bind fun x S1 => (evE C b ρ S1).bind fun y S2 => cmpD o x y S2
  | .chn o p a b c, ρ, S => (evE C a ρ S).bind fun x S1 => (evE C b ρ S1).bind fun y S2 => (cmpD o x y S2).bind fun z S3 => match z with
    | .bl true => (evE C c ρ S3).bind fun w S4 => cmpD p y w S4
    | .bl false => .ok (.bl false) S3
    | _ => .bad
  | .isN a, ρ, S => (evE C a ρ S).bind fun x S1 => .ok (.bl (isNon x)) S1
  | .notN a, ρ, S => (evE C a ρ S).bind fun x S1 => .ok (.bl (!isNon x)) S1
  | .inr a r, ρ, S => (evE C a ρ S).bind fun x S1 => (evR C r ρ S1).bind fun v S2 => may (inD x v S2) fun b => .ok (.bl b) S2
  | .notInr a r, ρ, S => (evE C a ρ S).bind fun x S1 => (evR C r ρ S1).bind fun v S2 => may (inD x v S2) fun b => .ok (.bl (!b)) S2
  | .and a b, ρ, S => (evE C a ρ S).bind fun x S1 => may (tru S1 x) fun k => if k = true then evE C b ρ S1 else .ok x S1
  | .or a b, ρ, S => (evE C a ρ S).bind fun x S1 => may (tru S1 x) fun k => if k = true then .ok x S1 else evE C b ρ S1
  | .not a, ρ, S => (evE C a ρ S).bind fun x S1 => may (tru S1 x) fun k => .ok (.bl (!k)) S1
  | .ife t a b, ρ, S => (evT C t ρ S).bind fun k S1 => if k = true then evE C a ρ S1 else evE C b ρ S1
  | .idx a i, ρ, S => (evE C a ρ S).bind fun x S1 => (evE C i ρ S1).bind fun y S2 => idxD x y S2
  | .slc a lo hi, ρ, S => (evE C a ρ S).bind fun x S1 => (evO C lo ρ S1).bind fun l S2 => (evO C hi ρ S2).bind fun u S3 => slcD x l u S3
  | .call f es, ρ, S => (evEs C es ρ S).bind fun ds S1 => C f ds S1
  | .fn1 f a, ρ, S => (evE C a ρ S).bind fun x S1 => fn1D f x S1
  | .fn2 f a b, ρ, S => (evE C a ρ S).bind fun x S1 => (evE C b ρ S1).bind fun y S2 => fn2D f x y S2
  | .agg f r, ρ, S => (evR C r ρ S).bind fun v S1 => aggD f v S1
  | .isi a t, ρ, S => (evE C a ρ S).bind fun x S1 => may (tyB t S1 x) fun b => .ok (.bl b) S1
  | .app l x, ρ, S => (evE C l ρ S).bind fun o S1 => withL S1 o fun _ _ => (evE C x ρ S1).bind fun v S2 => appD o v S2
  | .ext l r, ρ, S => (evE C l ρ S).bind fun o S1 => withL S1 o fun _ _ => (evR C r ρ S1).bind fun v S2 => extD o v S2
  | .pop l, ρ, S => (evE C l ρ S).bind fun o S1 => popD o S1
  | .popAt l i, ρ, S => (evE C l ρ S).bind fun o S1 => withL S1 o fun _ _ => (evE C i ρ S1).bind fun v S2 => popAtD o v S2
  | .join s r, ρ, S => (evR C r ρ S).bind fun v S1 => may (sqOf S1 v) fun ds => may (strsOf ds) fun ys => ask ((ys.map (·.length)).sum + ys.length * s.length ≤ 16777216) (.ok (.str (Txt.join s ys)) S1)
  | .tix a i, ρ, S => (evE C a ρ S).bind fun x S1 => match x with
    | .tup ds => (evE C i ρ S1).bind fun y S2 => tixD ds y S2
    | .ref j => withL S1 (.ref j) fun _ _ => (evE C i ρ S1).bind fun y S2 => may (ixD (.ref j) y S2) fun n => .ok (.int (n : Nat)) S2
    | _ => .bad
  | .ins l i x, ρ, S => (evE C l ρ S).bind fun o S1 => withL S1 o fun _ _ => (evE C i ρ S1).bind fun y S2 => (evE C x ρ S2).bind fun v S3 => insD o y v S3
  | .dnew, _, S => .ok (.ref S.length) (S ++ [.dic []])
  | .dget a k x, ρ, S => (evE C a ρ S).bind fun o S1 => withD S1 o fun _ _ => (evE C k ρ S1).bind fun y S2 => (evE C x ρ S2).bind fun z S3 => dgetD o y z S3
noncomputable def evO (C : Orc) : CO → En → Sto → Res (Option Int)
  | .none, _, S => .ok none S
  | .some e, ρ, S => (evE C e ρ S).bind fun x S1 => match x with
    | .int i => .ok (some i) S1
    | _ => .bad
noncomputable def evEs (C : Orc) : CEs → En → Sto → Res (List D)
  | .nil, _, S => .ok [] S
  | .cons a r, ρ, S => (evE C a ρ S).bind fun d S1 => (evEs C r ρ S1).bind fun ds S2 => .ok (d :: ds) S2
noncomputable def evQ (C : Orc) : CQ → En → Sto → Res (List D)
  | .disp es, ρ, S => (evEs C es ρ S).bind fun ds S1 => ask (ds.length ≤ sizeLine) (.ok ds S1)
  | .comp own g it elt, ρ, S => (evI C it ρ S).bind fun t S1 => ask (t.items.length ≤ sizeLine) (loopQ t.still (fun d S2 => may (bindN g d (wipeE ρ own) S2) fun ρ' => (evE C elt ρ' S2).bind fun x S3 => .ok (some x) S3) t.items S1)
  | .compIf own g it c elt, ρ, S => (evI C it ρ S).bind fun t S1 => ask (t.items.length ≤ sizeLine) (loopQ t.still (fun d S2 => may (bindN g d (wipeE ρ own) S2) fun ρ' => (evT C c ρ' S2).bind fun k S3 => if k = true then (evE C elt ρ' S3).bind fun x S4 => .ok (some x) S4 else .ok none S3) t.items S1)
  | .cat a b, ρ, S => (evR C a ρ S).bind fun v S1 => (evR C b ρ S1).bind fun w S2 => may (trOf S2 v) fun x => may (trOf S2 w) fun y => ask (x.length + y.length ≤ sizeLine) (.ok (x ++ y) S2)
  | .sorted r, ρ, S => (evR C r ρ S).bind fun v S1 => may (soOf S1 v) fun ds => sortD S1 ds
  | .list r, ρ, S => (evR C r ρ S).bind fun v S1 => may (lstOf S1 v) fun ds => .ok ds S1
  | .listRg a b, ρ, S => (evE C a ρ S).bind fun x S1 => (evE C b ρ S1).bind fun y S2 => match x, y with
    | .int i, .int j => ask (RgOk i j) (.ok (rgD i j) S2)
    | _, _ => .bad
  | .rev r, ρ, S => (evR C r ρ S).bind fun v S1 => may (lsOf S1 v) fun ds => .ok ds.reverse S1
noncomputable def evR (C : Orc) : CR → En → Sto → Res RV
  | .q c, ρ, S => (evQ C c ρ S).bind fun ds S1 => .ok (.own ds) S1
  | .e c, ρ, S => (evE C c ρ S).bind fun d S1 => .ok (.val d) S1
noncomputable def evI (C : Orc) : CI → En → Sto → Res Itv
  | .r c, ρ, S => (evR C c ρ S).bind fun v S1 => may (itOf v S1) fun t => .ok t S1
  | .rg a b, ρ, S => (evE C a ρ S).bind fun x S1 => (evE C b ρ S1).bind fun y S2 => match x, y with
    | .int i, .int j => ask (bd62 i ∧ bd62 j) (.ok ⟨rgD i j, none⟩ S2)
    | _, _ => .bad
  | .rgd a b, ρ, S => (evE C a ρ S).bind fun x S1 => (evE C b ρ S1).bind fun y S2 => match x, y with
    | .int i, .int j => ask (bd62 i ∧ bd62 j) (.ok ⟨rgdD i j, none⟩ S2)
    | _, _ => .bad
noncomputable def evT (C : Orc) : CT → En → Sto → Res Bool
  | .v e, ρ, S => (evE C e ρ S).bind fun x S1 => may (tru S1 x) fun k => .ok k S1
  | .and a b, ρ, S => (evT C a ρ S).bind fun k S1 => if k = true then evT C b ρ S1 else .ok false S1
  | .or a b, ρ, S => (evT C a ρ S).bind fun k S1 => if k = true then .ok true S1 else evT C b ρ S1
  | .not a, ρ, S => (evT C a ρ S).bind fun k S1 => .ok (!k) S1
end
mutual
noncomputable def evS (C : Orc) : CS → En → Sto → Res Fl
  | .set g e, ρ, S => (evE C e ρ S).bind fun d S1 => may (bindN g d ρ S1) fun ρ' => .ok (.nx ρ') S1
  | .par i j a b, ρ, S => (evE C a ρ S).bind fun x S1 => (evE C b ρ S1).bind fun y S2 => .ok (.nx ((ρ.set i (some x)).set j (some y))) S2
  | .sub o i e, ρ, S => (evE C e ρ S).bind fun d S1 => (evE C o ρ S1).bind fun x S2 => (evE C i ρ S2).bind fun y S3 => (setD x y d S3).bind fun _ S4 => .ok (.nx ρ) S4
  | .aug i p e, ρ, S => may ((ρ[i]?).bind id) fun x => (evE C e ρ S).bind fun y S1 => (augD p x y S1).bind fun z S2 => .ok (.nx (ρ.set i (some z))) S2
  | .augS o i p e, ρ, S => (evE C o ρ S).bind fun x S1 => (evE C i ρ S1).bind fun y S2 => (getD x y S2).bind fun v S3 => (evE C e ρ S3).bind fun w S4 => (augD p v w S4).bind fun z S5 => (setD x y z S5).bind fun _ S6 => .ok (.nx ρ) S6
  | .ex e, ρ, S => (evE C e ρ S).bind fun _ S1 => .ok (.nx ρ) S1
  | .ret e, ρ, S => (evE C e ρ S).bind fun d S1 => .ok (.rt d) S1
  | .ite t a b, ρ, S => (evT C t ρ S).bind fun k S1 => if k = true then evSs C a ρ S1 else evSs C b ρ S1
  | .for g it b, ρ, S => (evI C it ρ S).bind fun t S1 => loopS t.still (fun d ρ1 S2 => may (bindN g d ρ1 S2) fun ρ2 => evSs C b ρ2 S2) t.items ρ S1
  | .while t b, ρ, S => whileS (evT C t) (evSs C b) turns ρ S
  | .brk, ρ, S => .ok (.bk ρ) S
  | .cont, ρ, S => .ok (.ct ρ) S
  | .pass, ρ, S => .ok (.nx ρ) S
  | .raise, _, _ => .bad
noncomputable def evSs (C : Orc) : CSs → En → Sto → Res Fl
  | .nil, ρ, S => .ok (.nx ρ) S
  | .cons s r, ρ, S => (evS C s ρ S).bind fun fl S1 => match fl with
    | .nx ρ' => evSs C r ρ' S1
    | f => .ok f S1
end
end PQ

/-! What the language says, the machine does: expressions. -/
namespace L2
open PySem PySem.Spec PyProof.Rows
theorem PE.pq {X : Cx} {e : Expr} {t t' : TE} (h : PE X e t) (q : ∀ σ H Q, t' σ H Q → t σ H Q) : PE X e t' := ⟨fun pins s σ H Q I hw => h.run pins s σ H Q I (q σ H Q hw)⟩
theorem PT.pq {X : Cx} {e : Expr} {t t' : TT} (h : PT X e t) (q : ∀ σ H Q, t' σ H Q → t σ H Q) : PT X e t' := ⟨fun pins s σ H Q I hw => h.run pins s σ H Q I (q σ H Q hw)⟩
theorem PW.pq {X : Cx} {e : Expr} {t t' : TT} (h : PW X e t) (q : ∀ σ H Q, t' σ H Q → t σ H Q) : PW X e t' := ⟨fun w pins s σ H Q I hw => h.run w pins s σ H Q I (q σ H Q hw)⟩
theorem PA.pq {X : Cx} {e : List Expr} {t t' : TA} (h : PA X e t) (q : ∀ σ H Q, t' σ H Q → t σ H Q) : PA X e t' := ⟨fun pos pins s σ H Q I hw => h.run pos pins s σ H Q I (q σ H Q hw)⟩
theorem PO.pq {X : Cx} {e : Option Expr} {t t' : TO} (h : PO X e t) (q : ∀ σ H Q, t' σ H Q → t σ H Q) : PO X e t' := ⟨fun pins s σ H Q I hw => h.run pins s σ H Q I (q σ H Q hw)⟩

end L2

namespace PQ
open PySem PySem.Spec PyProof.Rows L2
abbrev Slots := L2.St

section
variable {K : Fg} {μ μ' μ1 : List Addr} {H H' H1 : Hp} {S S' : Sto} {σ : Slots} {ρ : En} {α β : Type}
/-- an answer, and what is wanted behind it -/
def Po (K : Fg) (μ : List Addr) (H : Hp) (r : Res α) (P : α → Sto → List Addr → Hp → Prop) : Prop := match r with
  | .ok a S' => ∀ μ' H', Ext K μ H μ' H' → StOk K μ' H' S' → P a S' μ' H'
  | _ => False
theorem Po.later {r : Res α} {P : α → Sto → List Addr → Hp → Prop} (e : Ext K μ H μ' H') (h : Po K μ H r P) : Po K μ' H' r P := by
  cases r with
  | ok a S' => exact fun μ2 H2 e2 s2 => h μ2 H2 (e.trans e2) s2
  | exc c fs S' => exact h
  | bad => exact h
theorem Po.imp {r : Res α} {P P' : α → Sto → List Addr → Hp → Prop} (h : Po K μ H r P) (q : ∀ a S' μ' H', r = .ok a S' → Ext K μ H μ' H' → StOk K μ' H' S' → P a S' μ' H' → P' a S' μ' H') : Po K μ H r P' := by
  cases r with
  | ok a S' => exact fun μ2 H2 e2 s2 => q a S' μ2 H2 rfl e2 s2 (h μ2 H2 e2 s2)
  | exc c fs S' => exact h
  | bad => exact h
theorem Po.bind {r : Res α} {f : α → Sto → Res β} {P : β → Sto → List Addr → Hp → Prop} (h : Po K μ H (r.bind f) P) : Po K μ H r fun a S' μ' H' => Po K μ' H' (f a S') P := by
  cases r with
  | ok a S' => exact fun μ2 H2 e2 s2 => Po.later e2 h
  | exc c fs S' => exact h
  | bad => exact h
theorem Po.ask {p : Prop} {r : Res α} {P : α → Sto → List Addr → Hp → Prop} (h : Po K μ H (ask p r) P) : p ∧ Po K μ H r P := by
  unfold PQ.ask at h
  split at h
  · exact ⟨by assumption, h⟩
  · exact h.elim
theorem Po.ite {p : Prop} [Decidable p] {r : Res α} {P : α → Sto → List Addr → Hp → Prop} (h : Po K μ H (if p then r else .bad) P) : p ∧ Po K μ H r P := by
  split at h
  · exact ⟨by assumption, h⟩
  · exact h.elim
theorem Po.may {o : Option β} {f : β → Res α} {P : α → Sto → List Addr → Hp → Prop} (h : Po K μ H (may o f) P) : ∃ a, o = some a ∧ Po K μ H (f a) P := by
  cases o with
  | none => exact h.elim
  | some a => exact ⟨a, rfl, h⟩
theorem Po.at {a : α} {P : α → Sto → List Addr → Hp → Prop} (h : Po K μ H (.ok a S) P) (s : StOk K μ H S) : P a S μ H := h μ H .refl s

/-- the names -/
def EnvOk (K : Fg) (μ : List Addr) (H : Hp) (ρ : En) (σ : Slots) : Prop := σ.length = ρ.length ∧ ∀ (i : Nat) d, ρ[i]? = some (some d) → ∃ v, σ[i]? = some (some v) ∧ Rp K μ H d v
theorem EnvOk.mono (e : Ext K μ H μ' H') (h : EnvOk K μ H ρ σ) : EnvOk K μ' H' ρ σ := ⟨h.1, fun i d q => let ⟨v, e1, e2⟩ := h.2 i d q; ⟨v, e1, e2.mono e⟩⟩
theorem EnvOk.set (h : EnvOk K μ H ρ σ) {d : D} {v : V} (r : Rp K μ H d v) (i : Nat) : EnvOk K μ H (ρ.set i (some d)) (σ.set i (some v)) := by
  refine ⟨by rw [List.length_set, List.length_set]; exact h.1, fun j d' q => ?_⟩
  by_cases hj : i = j
  · subst hj
    by_cases hi : i < ρ.length
    · rw [List.getElem?_set_self hi] at q
      cases q
      exact ⟨v, List.getElem?_set_self (by rw [h.1]; exact hi), r⟩
    · rw [List.getElem?_eq_none (by rw [List.length_set]; omega)] at q
      cases q
  · rw [List.getElem?_set_ne hj] at q ⊢
    exact h.2 j d' q
theorem EnvOk.wipe (h : EnvOk K μ H ρ σ) : ∀ vs : List Nat, EnvOk K μ H (wipeE ρ vs) (wipe σ vs)
  | [] => h
  | v :: vs => by
    have ih := EnvOk.wipe h vs
    refine ⟨by unfold wipeE L2.wipe; rw [List.length_set, List.length_set]; exact ih.1, fun j d q => ?_⟩
    unfold wipeE at q
    unfold L2.wipe
    by_cases hj : v = j
    · subst hj
      by_cases hi : v < (wipeE ρ vs).length
      · rw [List.getElem?_set_self hi] at q; cases q
      · rw [List.getElem?_eq_none (by rw [List.length_set]; omega)] at q; cases q
    · rw [List.getElem?_set_ne hj] at q ⊢
      exact ih.2 j d q

/-- a walked thing as it stands -/
def RvR (K : Fg) (μ : List Addr) (H : Hp) : RV → V → Prop
  | .own ds, v => ∃ a vs, v = .ref a ∧ H a = some (.lst vs) ∧ a ∉ μ ∧ RpA K μ H ds vs ∧ ds.length ≤ sizeLine
  | .val d, v => Rp K μ H d v
theorem Ext.notin (e : Ext K μ H μ' H') {a : Addr} {o : HO} (h : H a = some o) (n : a ∉ μ) : a ∉ μ' := by
  obtain ⟨l, rfl, q⟩ := e.pre
  intro m
  rcases List.mem_append.mp m with m | m
  · exact n m
  · rw [q a m] at h; cases h
theorem RvR.mono (e : Ext K μ H μ' H') {r : RV} {v : V} (h : RvR K μ H r v) : RvR K μ' H' r v := by
  cases r with
  | own ds =>
    obtain ⟨a, vs, h1, h2, h3, h4, h5⟩ := h
    exact ⟨a, vs, h1, e.fr a _ h2 h3, e.notin h2 h3, h4.mono e, h5⟩
  | val d => exact Rp.mono e h

/-! ### readings -/
def tE (K : Fg) (f : En → Sto → Res D) : TE := fun σ H Q => ∃ μ ρ S, EnvOk K μ H ρ σ ∧ StOk K μ H S ∧ Po K μ H (f ρ S) fun d _ μ' H' => ∀ v, Rp K μ' H' d v → Q v H'
def tT (K : Fg) (f : En → Sto → Res Bool) : TT := fun σ H Q => ∃ μ ρ S, EnvOk K μ H ρ σ ∧ StOk K μ H S ∧ Po K μ H (f ρ S) fun b _ _ H' => Q b H'
def tA (K : Fg) (f : En → Sto → Res (List D)) : TA := fun σ H Q => ∃ μ ρ S, EnvOk K μ H ρ σ ∧ StOk K μ H S ∧ Po K μ H (f ρ S) fun ds _ μ' H' => ∀ vs, RpA K μ' H' ds vs → Q vs H'
def tQ (K : Fg) (f : En → Sto → Res (List D)) : TE := fun σ H Q => ∃ μ ρ S, EnvOk K μ H ρ σ ∧ StOk K μ H S ∧ Po K μ H (f ρ S) fun ds _ μ' H' => ∀ a vs, H a = none → H' a = some (.lst vs) → a ∉ μ' → RpA K μ' H' ds vs → ds.length ≤ sizeLine → Q (.ref a) H'
def tR (K : Fg) (f : En → Sto → Res RV) : TE := fun σ H Q => ∃ μ ρ S, EnvOk K μ H ρ σ ∧ StOk K μ H S ∧ Po K μ H (f ρ S) fun r _ μ' H' => ∀ v, RvR K μ' H' r v → Q v H'
def tO (K : Fg) (f : En → Sto → Res (Option Int)) : TO := fun σ H Q => ∃ μ ρ S, EnvOk K μ H ρ σ ∧ StOk K μ H S ∧ Po K μ H (f ρ S) fun o _ _ H' => Q o H'

/-- a def's promise: what the oracle says of it -/
def spC (K : Fg) (C : Orc) (f : Nat) : Sp := fun vs H Q _ => ∃ μ ds S, StOk K μ H S ∧ RpA K μ H ds vs ∧ Po K μ H (C f ds S) fun d _ μ' H' => ∀ v, Rp K μ' H' d v → Q v H'

/-- what a module's name stands for: a value that stays, a built-in function -/
inductive Gv
  | con (d : D)
  | fn (id : String)
def GvOk (K : Fg) (mg : Str → Option Value) (x : Str) : Gv → Prop
  | .con d => ∃ v u, mg x = some u ∧ RelV v u ∧ ∀ μ H, Rp K μ H d v
  | .fn id => mg x = some (.builtin id)
/-- the place where a text stands: the defs' names, the built-ins' names, the def's names, its scope, the module's other names -/
structure Pl where
  T : List Str
  B : List Str
  N : List Str
  sc : Scope
  G : List (Str × Gv)
structure Good (X : Cx) (p : Pl) (C : Orc) : Prop where
  calm : X.calm = true
  nd : X.N.Nodup
  un : X.A.units + 3100 < cLine
  own : PassesOwn (model X.prog X.w) X.A X.env X.xe
  N : X.N = p.N
  sc : X.env.scope = p.sc
  blt : ∀ x, x ∈ p.B → X.mg x = none
  glb : ∀ x g, (x, g) ∈ p.G → GvOk X.K X.mg x g
  fn : ∀ (i : Nat) x, p.T[i]? = some x → ∃ f fd ps k, X.mg x = some (.ref f) ∧ FnOk X.prog X.w X.K X.mg X.base CX0 k f fd ps (spC X.K C i) ∧ Room k X.A ∧ PySem.W.keepIn X.K (.ref f) = true ∧ Binds X.K fd ps []
end

/-! ### the judgements -/
def SdE (p : Pl) (e : Expr) (c : CE) : Prop := ∀ X C, Good X p C → PE X e (tE X.K (evE C c))
def SdT (p : Pl) (e : Expr) (c : CT) : Prop := ∀ X C, Good X p C → PT X e (tT X.K (evT C c))
def SdW (p : Pl) (e : Expr) (c : CT) : Prop := ∀ X C, Good X p C → PW X e (tT X.K (evT C c))
def SdA (p : Pl) (es : List Expr) (c : CEs) : Prop := ∀ X C, Good X p C → PA X es (tA X.K (evEs C c))
def SdQ (p : Pl) (e : Expr) (c : CQ) : Prop := ∀ X C, Good X p C → PE X e (tQ X.K (evQ C c))
def SdR (p : Pl) (e : Expr) (c : CR) : Prop := ∀ X C, Good X p C → PE X e (tR X.K (evR C c))
def SdO (p : Pl) (e : Option Expr) (c : CO) : Prop := ∀ X C, Good X p C → PO X e (tO X.K (evO C c))

section
variable {p : Pl} {a b c e : Expr} {ca cb cc : CE} {pos : Pos}
/-! ### names, constants -/
theorem sd_var {i : Nat} {x : Str} (hN : p.N[i]? = some x) (hv : Vis p.sc x) (hd : (x == ("__debug__" : Str)) = false) (hcd : (x == ("__classdict__" : Str)) = false) : SdE p (.Name x pos) (.var i) := fun X C g =>
  (pe_var (i := i) (by rw [g.N]; exact hN) (by rw [g.sc]; exact hv) hd hcd).pq fun σ H Q ⟨μ, ρ, S, he, hs, h⟩ => by
    unfold evE at h
    obtain ⟨d, e1, h⟩ := h.may
    have e2 : ρ[i]? = some (some d) := by
      cases q : ρ[i]? with
      | none => rw [q] at e1; cases e1
      | some o => rw [q] at e1; exact congrArg some e1
    obtain ⟨v, q1, q2⟩ := he.2 i d e2
    exact ⟨v, q1, h.at hs v q2⟩
theorem sd_lit {d : D} {v : V} (h : ∀ X : Cx, PE X e (tC v)) (r : ∀ K μ H, Rp K μ H d v) : SdE p e (.lit d) := fun X C g =>
  (h X).pq fun σ H Q ⟨μ, ρ, S, he, hs, h⟩ => by
    unfold evE at h
    exact h.at hs v (r _ _ _)
theorem sd_int {i j} : SdE p (.Constant (.int i) j pos) (.lit (.int i)) := sd_lit (v := .int i) (fun _ => pe_int) fun _ _ _ => rfl
theorem sd_bl {i j} : SdE p (.Constant (.bool i) j pos) (.lit (.bl i)) := sd_lit (v := .bl i) (fun _ => pe_bl) fun _ _ _ => rfl
theorem sd_non {j} : SdE p (.Constant .none j pos) (.lit .non) := sd_lit (v := .non) (fun _ => pe_non) fun _ _ _ => rfl
theorem sd_str {x j} : SdE p (.Constant (.str x) j pos) (.lit (.str x)) := sd_lit (v := .str x) (fun _ => pe_str) fun _ _ _ => rfl

/-! ### argument lists, displays -/
theorem sa_nil : SdA p [] .nil := fun X C g => pa_nil.pq fun σ H Q ⟨μ, ρ, S, he, hs, h⟩ => by
  unfold evEs at h
  exact h.at hs [] rfl
theorem sa_cons {es : List Expr} {r : CEs} (ha : SdE p a ca) (hr : SdA p es r) (hs : ∀ env, starEach (a :: es) env = (false, eval a env) :: starEach es env) : SdA p (a :: es) (.cons ca r) := fun X C g =>
  (pa_cons (ha X C g) (hr X C g) (hs _)).pq fun σ H Q ⟨μ, ρ, S, he, hs, h⟩ => by
    unfold evEs at h
    refine ⟨μ, ρ, S, he, hs, h.bind.imp fun d S1 μ1 H1 _ e1 s1 h1 v rv => ?_⟩
    refine ⟨μ1, ρ, S1, he.mono e1, s1, h1.bind.imp fun ds S2 μ2 H2 _ e2 s2 h2 vs rvs => ?_⟩
    exact h2.at s2 (v :: vs) (.cons (rv.mono e2) rvs)
theorem sd_tup {es : List Expr} {c : CEs} {k : Nat} (h : SdA p es c) : SdE p (.Tuple es k pos) (.tup c) := fun X C g =>
  (pe_tupN (h X C g)).pq fun σ H Q ⟨μ, ρ, S, he, hs, h⟩ => by
    unfold evE at h
    refine ⟨μ, ρ, S, he, hs, h.bind.imp fun ds S1 μ1 H1 _ e1 s1 h1 vs rvs => ?_⟩
    obtain ⟨z, h1⟩ := h1.ask
    refine ⟨by rw [← rvs.length]; exact z, fun q o hq c1 c2 => ?_⟩
    exact h1 μ1 _ (s1.fresh hq _) (s1.freshOk hq _) (.ref q) ⟨q, vs, rfl, .new c1 c2, rvs.mono (s1.fresh hq _), z⟩
theorem sq_disp {es : List Expr} {c : CEs} (h : SdA p es c) : SdQ p (.List es pos) (.disp c) := fun X C g =>
  (pe_lst (h X C g)).pq fun σ H Q ⟨μ, ρ, S, he, hs, h⟩ => by
    unfold evQ at h
    refine ⟨μ, ρ, S, he, hs, h.bind.imp fun ds S1 μ1 H1 _ e1 s1 h1 vs rvs => ?_⟩
    obtain ⟨z, h1⟩ := h1.ask
    refine ⟨by rw [← rvs.length]; exact z, fun q hq => ?_⟩
    refine h1 μ1 _ (s1.fresh hq _) (s1.freshOk hq _) q vs (e1.alive _ hq) upd_same (fun m => ?_) (rvs.mono (s1.fresh hq _)) z
    obtain ⟨u, e, _⟩ := s1.mem m
    rw [hq] at e; cases e
/-- a new list goes into the store -/
theorem sd_alloc {q : CQ} (h : SdQ p e q) : SdE p e (.alloc q) := fun X C g => (h X C g).pq fun σ H Q ⟨μ, ρ, S, he, hs, h⟩ => by
  unfold evE at h
  refine ⟨μ, ρ, S, he, hs, ?_⟩
  generalize evQ C q ρ S = r at h
  cases r with
  | ok ds S1 =>
    intro μ1 H1 e1 s1 a vs hn ha hm rvs hz
    refine h (μ1 ++ [a]) H1 (e1.take hn) (s1.take hm ha rvs hz) (.ref a) ⟨a, rfl, ?_⟩
    rw [← s1.len, List.getElem?_append_right (Nat.le_refl _), Nat.sub_self]
    rfl
  | exc c fs S' => exact h
  | bad => exact h
theorem sr_q {q : CQ} (h : SdQ p e q) : SdR p e (.q q) := fun X C g => (h X C g).pq fun σ H Q ⟨μ, ρ, S, he, hs, h⟩ => by
  unfold evR at h
  exact ⟨μ, ρ, S, he, hs, h.bind.imp fun ds S1 μ1 H1 _ e1 s1 h1 a vs hn ha hm rvs hz => h1.at s1 (.ref a) ⟨a, vs, rfl, ha, hm, rvs, hz⟩⟩
theorem sr_e (h : SdE p e ca) : SdR p e (.e ca) := fun X C g => (h X C g).pq fun σ H Q ⟨μ, ρ, S, he, hs, h⟩ => by
  unfold evR at h
  exact ⟨μ, ρ, S, he, hs, h.bind.imp fun d S1 μ1 H1 _ e1 s1 h1 v rv => h1.at s1 v rv⟩

/-! ### operators -/
/-- an operator of two values, by what it says of data -/
def OpS (g : D → D → Sto → Res D) (r : Fg → R2) : Prop := ∀ (K : Fg) (μ : List Addr) (H : Hp) (S : Sto) (x y : D) (v u : V) (Q : VK), StOk K μ H S → Rp K μ H x v → Rp K μ H y u → Po K μ H (g x y S) (fun d _ μ' H' => ∀ v, Rp K μ' H' d v → Q v H') → r K v u H Q
theorem tOp_imp {g : D → D → Sto → Res D} {r : Fg → R2} (hg : OpS g r) {K : Fg} {fa fb : En → Sto → Res D} {σ : Slots} {H : Hp} {Q : VK}
    (h : tE K (fun ρ S => (fa ρ S).bind fun x S1 => (fb ρ S1).bind fun y S2 => g x y S2) σ H Q) : tOp (r K) (tE K fa) (tE K fb) σ H Q := by
  obtain ⟨μ, ρ, S, he, hs, h⟩ := h
  refine ⟨μ, ρ, S, he, hs, h.bind.imp fun x S1 μ1 H1 _ e1 s1 h1 v rv => ?_⟩
  refine ⟨μ1, ρ, S1, he.mono e1, s1, h1.bind.imp fun y S2 μ2 H2 _ e2 s2 h2 u ru => ?_⟩
  exact hg K μ2 H2 S2 x y v u Q s2 (rv.mono e2) ru h2
theorem sd_bin {o : Bop} {op : Operator} {r : Fg → R2} (ho : ∀ X C, Good X p C → OpR X (binaryOp op) (r X.K)) (hg : OpS (binD o) r) (ha : SdE p a ca) (hb : SdE p b cb) : SdE p (.BinOp a op b pos) (.bin o ca cb) := fun X C g =>
  (pe_op (ho X C g) (ha X C g) (hb X C g)).pq fun σ H Q h => tOp_imp hg (by
    obtain ⟨μ, ρ, S, he, hs, h⟩ := h
    unfold evE at h
    exact ⟨μ, ρ, S, he, hs, h⟩)
theorem sd_cmp {o : Cop} {op : CmpOp} {r : Fg → R2} (ho : ∀ X C, Good X p C → OpR X (compareOp op) (r X.K)) (hg : OpS (cmpD o) r) (h1 : op ≠ .In) (h2 : op ≠ .NotIn) (ha : SdE p a ca) (hb : SdE p b cb) : SdE p (.Compare a [op] [b] pos) (.cmp o ca cb) := fun X C g =>
  (pe_cmpR (ho X C g) (ha X C g) (hb X C g) (nomark b h1 h2)).pq fun σ H Q h => tOp_imp hg (by
    obtain ⟨μ, ρ, S, he, hs, h⟩ := h
    unfold evE at h
    exact ⟨μ, ρ, S, he, hs, h⟩)

/-! the operators one by one -/
section
variable {K : Fg} {μ : List Addr} {H : Hp} {S : Sto} {x y d : D} {v u : V} {Q : VK}
theorem rp_tup {ds : List D} {p : Addr} {o : Obj} {vs : List V} (hs : StOk K μ H S) (hz : ds.length ≤ sizeLine) (r : RpA K μ H ds vs) (hp : H p = none) (c1 : o.cls = .type "tuple") (c2 : o.dict = none) : Rp K μ (upd H p (.frz o (.tup vs))) (.tup ds) (.ref p) :=
  ⟨p, vs, rfl, .new c1 c2, r.mono (hs.fresh hp _), hz⟩
/-- a new list at p that the store takes up -/
theorem take_new {ds : List D} {p : Addr} {vs : List V} (hs : StOk K μ H S) (hz : ds.length ≤ sizeLine) (r : RpA K μ H ds vs) (hp : H p = none) :
    Ext K μ H (μ ++ [p]) (upd H p (.lst vs)) ∧ StOk K (μ ++ [p]) (upd H p (.lst vs)) (S ++ [.lst ds]) ∧ Rp K (μ ++ [p]) (upd H p (.lst vs)) (.ref S.length) (.ref p) := by
  refine ⟨(hs.fresh hp _).take hp, (hs.freshOk hp _).take (fun m => ?_) upd_same (r.mono (hs.fresh hp _)) hz, p, rfl, ?_⟩
  · obtain ⟨w, e, _⟩ := hs.mem m
    rw [hp] at e; cases e
  · rw [← hs.len, List.getElem?_append_right (Nat.le_refl _), Nat.sub_self]
    rfl
theorem rp_ref {i : Nat} (r : Rp K μ H (.ref i) v) (hs : StOk K μ H S) {ds : List D} (e : S[i]? = some (.lst ds)) : ∃ a vs, v = .ref a ∧ μ[i]? = some a ∧ H a = some (.lst vs) ∧ RpA K μ H ds vs ∧ ds.length ≤ sizeLine := by
  obtain ⟨a, rfl, ea⟩ := r
  obtain ⟨vs, h1, h2, h3⟩ := hs.lst e ea
  exact ⟨a, vs, rfl, ea, h1, h2, h3⟩
end
end
end PQ

/-! The operators, subscripts, built-ins. -/
namespace PQ
open PySem PySem.Spec PyProof.Rows L2
section
variable {p : Pl} {a b c e : Expr} {ca cb cc : CE} {pos : Pos}
/-! ### arithmetic -/
theorem os_int {o : Bop} {g : Int → Int → Int} {C : Int → Int → Prop} (h1 : ∀ i j S, binD o (.int i) (.int j) S = ask (C i j) (.ok (.int (g i j)) S)) (h2 : ∀ x y S, (∀ i j, ¬ (x = .int i ∧ y = .int j)) → binD o x y S = .bad) : OpS (binD o) fun _ => rI C fun i j => .int (g i j) := by
  intro K μ H S x y v u Q hs rx ry h
  by_cases hc : ∃ i j, x = .int i ∧ y = .int j
  · obtain ⟨i, j, rfl, rfl⟩ := hc
    rw [h1] at h
    obtain ⟨hc, h⟩ := h.ask
    exact ⟨i, j, rx, ry, hc, h.at hs _ rfl⟩
  · rw [h2 x y S (fun i j z => hc ⟨i, j, z⟩)] at h
    exact h.elim
theorem os_int0 {o : Bop} {g : Int → Int → Int} (h1 : ∀ i j S, binD o (.int i) (.int j) S = .ok (.int (g i j)) S) (h2 : ∀ x y S, (∀ i j, ¬ (x = .int i ∧ y = .int j)) → binD o x y S = .bad) : OpS (binD o) fun _ => rI0 fun i j => .int (g i j) := by
  intro K μ H S x y v u Q hs rx ry h
  by_cases hc : ∃ i j, x = .int i ∧ y = .int j
  · obtain ⟨i, j, rfl, rfl⟩ := hc
    rw [h1] at h
    exact ⟨i, j, rx, ry, h.at hs _ rfl⟩
  · rw [h2 x y S (fun i j z => hc ⟨i, j, z⟩)] at h
    exact h.elim
/-- the other cases of an operator of ints -/
theorem bin_else (o : Bop) (ho : (match o with | .add => false | .mul => false | _ => true) = true) (x y : D) (S : Sto) (h : ∀ i j, ¬ (x = .int i ∧ y = .int j)) : binD o x y S = .bad := by
  cases o <;> first | (cases ho; done) | (cases x <;> cases y <;> first | rfl | exact absurd ⟨rfl, rfl⟩ (h _ _))
def rAddB : R2 := fun x y H Q => ∃ i b, x = .int i ∧ y = .bl b ∧ Q (.int (i + if b = true then 1 else 0)) H
theorem op_addB {X : Cx} : OpR X (binaryOp .Add) rAddB := by
  intro pins s σ H x y v u Q I rx ry q
  obtain ⟨i, b, rfl, rfl, q⟩ := q
  obtain ⟨t, rfl⟩ := rx
  cases ry
  exact add_int_bool ⟨.int _, H, I.tok _, ⟨_, rfl⟩, q⟩
def rMulS : R2 := fun x y H Q => ∃ a k, x = .str a ∧ y = .int k ∧ MulOk a k ∧ Q (.str (Txt.mul a k)) H
theorem op_mulS {X : Cx} : OpR X (binaryOp .Mult) rMulS := by
  intro pins s σ H x y v u Q I rx ry q
  obtain ⟨a, k, rfl, rfl, hk, q⟩ := q
  obtain ⟨t, rfl⟩ := rx
  obtain ⟨t', rfl⟩ := ry
  exact SB.mul hk fun t2 k2 => ⟨.str _, H, I.tok _, ⟨_, rfl⟩, q⟩
def rAdd4 (K : Fg) : R2 := fun x y H Q => rI0 (fun i j => .int (i + j)) x y H Q ∨ ((∃ i j, x = .str i ∧ y = .str j ∧ i.length + j.length ≤ sizeLine ∧ Q (.str (i ++ j)) H) ∨ (rCatN K x y H Q ∨ (rCat x y H Q ∨ rAddB x y H Q)))
theorem os_add : OpS (binD .add) rAdd4 := by
  intro K μ H S x y v u Q hs rx ry h
  cases x with
  | int i =>
    cases y with
    | int j => exact .inl ⟨i, j, rx, ry, h.at hs _ rfl⟩
    | bl b => exact .inr (.inr (.inr (.inr ⟨i, b, rx, ry, h.at hs _ rfl⟩)))
    | _ => exact (show False from h).elim
  | str i =>
    cases y with
    | str j =>
      obtain ⟨z, h⟩ := Po.ask h
      exact .inr (.inl ⟨i, j, rx, ry, z, h.at hs _ rfl⟩)
    | _ => exact (show False from h).elim
  | tup ds =>
    cases y with
    | tup es =>
      obtain ⟨z, h⟩ := Po.ask h
      obtain ⟨q1, vs, rfl, ha, ra, za⟩ := rx
      obtain ⟨q2, us, rfl, hb, rb, zb⟩ := ry
      refine .inr (.inr (.inl ⟨q1, q2, vs, us, rfl, rfl, ha.sq, hb.sq, by rw [← ra.length, ← rb.length]; exact z, fun e => ?_, fun _ e => ?_, fun _ _ p o hp c1 c2 => ?_⟩))
      · refine h.at hs _ ?_
        have : ds = [] := List.eq_nil_of_length_eq_zero (by rw [ra.length, e]; rfl)
        subst this
        exact ⟨q2, us, rfl, hb, rb, zb⟩
      · refine h.at hs _ ?_
        have : es = [] := List.eq_nil_of_length_eq_zero (by rw [rb.length, e]; rfl)
        subst this
        rw [List.append_nil]
        exact ⟨q1, vs, rfl, ha, ra, za⟩
      · exact h μ _ (hs.fresh hp _) (hs.freshOk hp _) _ (rp_tup hs (by rw [List.length_append]; exact z) (ra.append rb) hp c1 c2)
    | _ => exact (show False from h).elim
  | ref i =>
    cases y with
    | ref j =>
      have h : Po K μ H (match S[i]?, S[j]? with
        | some (.lst a), some (.lst b) => ask (a.length + b.length ≤ sizeLine) (Res.ok (D.ref S.length) (S ++ [Ob.lst (a ++ b)]))
        | _, _ => Res.bad) _ := h
      cases ei : S[i]? with
      | none => rw [ei] at h; exact (show False from h).elim
      | some o =>
        cases ej : S[j]? with
        | none => rw [ei, ej] at h; cases o <;> exact (show False from h).elim
        | some o' =>
          rw [ei, ej] at h
          cases o with
          | dic ks => first | (cases h; done) | exact (show False from h).elim
          | lst ds =>
            cases o' with
            | dic ks => first | (cases h; done) | exact (show False from h).elim
            | lst es =>
              obtain ⟨z, h⟩ := Po.ask h
              obtain ⟨q1, vs, rfl, _, ha, ra, _⟩ := rp_ref rx hs ei
              obtain ⟨q2, us, rfl, _, hb, rb, _⟩ := rp_ref ry hs ej
              refine .inr (.inr (.inr (.inl ⟨q1, q2, vs, us, rfl, rfl, ha, hb, by rw [← ra.length, ← rb.length]; exact z, fun p hp => ?_⟩)))
              obtain ⟨e1, s1, r1⟩ := take_new hs (by rw [List.length_append]; exact z) (ra.append rb) hp
              exact h _ _ e1 s1 _ r1
    | _ => exact (show False from h).elim
  | _ => exact (show False from h).elim
theorem sd_add (ha : SdE p a ca) (hb : SdE p b cb) : SdE p (.BinOp a .Add b pos) (.bin .add ca cb) := sd_bin (fun X C g => op_add.or (op_add_str.or (op_catN.or (op_cat.or op_addB)))) os_add ha hb
theorem sd_sub (ha : SdE p a ca) (hb : SdE p b cb) : SdE p (.BinOp a .Sub b pos) (.bin .sub ca cb) := sd_bin (fun X C g => op_sub) (os_int0 (fun _ _ _ => rfl) (bin_else .sub rfl)) ha hb
theorem opI' {X : Cx} {f : Value → Value → Sem Value} {C : Int → Int → Prop} {g : Int → Int → Int} (h : ∀ i j t u (Q : Value → Shared → Prop) s, C i j → (∀ t', Q (.int (g i j) t') { s with toks := s.toks + 1 }) → wpAny (model X.prog X.w) X.A (f (.int i t) (.int j u)) Q X.xe s) : OpR X f (rI C fun i j => .int (g i j)) := by
  intro pins s σ H x y v u Q I rx ry q
  obtain ⟨i, j, rfl, rfl, hc, q⟩ := q
  obtain ⟨t, rfl⟩ := rx
  obtain ⟨t', rfl⟩ := ry
  exact h i j t t' _ s hc fun t2 => ⟨.int _, H, I.tok _, ⟨_, rfl⟩, q⟩
def rMul2 : R2 := fun x y H Q => rI IntMulOk (fun i j => .int (i * j)) x y H Q ∨ (rRep x y H Q ∨ rMulS x y H Q)
theorem os_mul : OpS (binD .mul) fun _ => rMul2 := by
  intro K μ H S x y v u Q hs rx ry h
  cases x with
  | int i =>
    cases y with
    | int j =>
      obtain ⟨z, h⟩ := Po.ask h
      exact .inl ⟨i, j, rx, ry, z, h.at hs _ rfl⟩
    | _ => exact (show False from h).elim
  | ref i =>
    cases y with
    | int k =>
      have h : Po K μ H (match S[i]? with
        | some (.lst a) => ask (-(2 ^ 63) ≤ k ∧ k < 2 ^ 63 ∧ a.length * k.toNat ≤ sizeLine) (Res.ok (D.ref S.length) (S ++ [Ob.lst (List.replicate k.toNat a).flatten]))
        | _ => Res.bad) _ := h
      cases ei : S[i]? with
      | none => rw [ei] at h; exact (show False from h).elim
      | some o =>
        rw [ei] at h
        cases o with
        | dic ks => first | (cases h; done) | exact (show False from h).elim
        | lst ds =>
          obtain ⟨⟨k1, k2, z⟩, h⟩ := Po.ask h
          obtain ⟨q1, vs, rfl, _, ha, ra, _⟩ := rp_ref rx hs ei
          refine .inr (.inl ⟨q1, k, vs, rfl, ry, ha, k1, k2, by rw [← ra.length]; exact z, fun p hp => ?_⟩)
          have rep : ∀ n : Nat, RpA K μ H (List.replicate n ds).flatten (List.replicate n vs).flatten := fun n => by
            induction n with
            | zero => exact .nil
            | succ n ih =>
              rw [List.replicate_succ, List.replicate_succ, List.flatten_cons, List.flatten_cons]
              exact ra.append ih
          have zl : (List.replicate k.toNat ds).flatten.length ≤ sizeLine := by
            rw [List.length_flatten, List.map_replicate, List.sum_replicate_nat, Nat.mul_comm]
            exact z
          obtain ⟨e1, s1, r1⟩ := take_new hs zl (rep k.toNat) hp
          exact h _ _ e1 s1 _ r1
    | _ => exact (show False from h).elim
  | str a =>
    cases y with
    | int k =>
      obtain ⟨z, h⟩ := Po.ask (show Po K μ H (ask (MulOk a k) (Res.ok (D.str (Txt.mul a k)) S)) _ from h)
      exact .inr (.inr ⟨a, k, rx, ry, z, h.at hs _ rfl⟩)
    | _ => exact (show False from h).elim
  | _ => exact (show False from h).elim
theorem sd_mul (ha : SdE p a ca) (hb : SdE p b cb) : SdE p (.BinOp a .Mult b pos) (.bin .mul ca cb) := sd_bin (r := fun _ => rMul2) (fun X C g => (opI' fun _ _ _ _ _ _ hc q => mul_int (q _) hc).or (op_rep.or op_mulS)) os_mul ha hb
theorem sd_fdiv (ha : SdE p a ca) (hb : SdE p b cb) : SdE p (.BinOp a .FloorDiv b pos) (.bin .fdiv ca cb) :=
  sd_bin (r := fun _ => rI FDivOk fun i j => .int (i.fdiv j)) (fun X C g => opI' fun _ _ _ _ _ _ hc q => floordiv_int hc.1 (q _) (.inl hc.2)) (os_int (fun _ _ _ => rfl) (bin_else .fdiv rfl)) ha hb
theorem sd_mod (ha : SdE p a ca) (hb : SdE p b cb) : SdE p (.BinOp a .Mod b pos) (.bin .mod ca cb) :=
  sd_bin (r := fun _ => rI (fun _ j => j ≠ 0) fun i j => .int (i.fmod j)) (fun X C g => op_modN) (os_int (C := fun _ j => j ≠ 0) (fun _ _ _ => rfl) (bin_else .mod rfl)) ha hb
theorem sd_pow (ha : SdE p a ca) (hb : SdE p b cb) : SdE p (.BinOp a .Pow b pos) (.bin .pow ca cb) :=
  sd_bin (r := fun _ => rI CPow fun i j => .int (i ^ j.toNat)) (fun X C g => op_pow) (os_int (C := CPow) (fun _ _ _ => rfl) (bin_else .pow rfl)) ha hb
theorem sd_shl (ha : SdE p a ca) (hb : SdE p b cb) : SdE p (.BinOp a .LShift b pos) (.bin .shl ca cb) :=
  sd_bin (r := fun _ => rI CPow fun i j => .int (i * 2 ^ j.toNat)) (fun X C g => op_shl) (os_int (C := CPow) (fun _ _ _ => rfl) (bin_else .shl rfl)) ha hb
theorem sd_shr (ha : SdE p a ca) (hb : SdE p b cb) : SdE p (.BinOp a .RShift b pos) (.bin .shr ca cb) :=
  sd_bin (r := fun _ => rI (fun _ j => 0 ≤ j) fun i j => .int (i / 2 ^ j.toNat)) (fun X C g => op_shr) (os_int (C := fun _ j => 0 ≤ j) (fun _ _ _ => rfl) (bin_else .shr rfl)) ha hb
theorem sd_band (ha : SdE p a ca) (hb : SdE p b cb) : SdE p (.BinOp a .BitAnd b pos) (.bin .band ca cb) := sd_bin (fun X C g => op_and) (os_int0 (fun _ _ _ => rfl) (bin_else .band rfl)) ha hb
theorem sd_bor (ha : SdE p a ca) (hb : SdE p b cb) : SdE p (.BinOp a .BitOr b pos) (.bin .bor ca cb) := sd_bin (fun X C g => op_or) (os_int0 (fun _ _ _ => rfl) (bin_else .bor rfl)) ha hb
theorem sd_bxor (ha : SdE p a ca) (hb : SdE p b cb) : SdE p (.BinOp a .BitXor b pos) (.bin .bxor ca cb) := sd_bin (fun X C g => op_xor) (os_int0 (fun _ _ _ => rfl) (bin_else .bxor rfl)) ha hb
theorem sd_neg (ha : SdE p a ca) : SdE p (.UnaryOp .USub a pos) (.neg ca) := fun X C g => (pe_un un_neg (ha X C g)).pq fun σ H Q ⟨μ, ρ, S, he, hs, h⟩ => by
  unfold evE at h
  refine ⟨μ, ρ, S, he, hs, h.bind.imp fun x S1 μ1 H1 _ e1 s1 h1 v rv => ?_⟩
  cases x with
  | int i => exact ⟨i, rv, h1.at s1 _ rfl⟩
  | _ => exact (show False from h1).elim

/-! ### comparisons -/
section
variable {K : Fg} {μ : List Addr} {H : Hp} {S : Sto}
theorem refP_dp (hs : StOk K μ H S) : ∀ (n i : Nat) (a : Addr) (q : PyData), μ[i]? = some a → refP S n i = some q → Dp K H (.ref a) q
  | 0, _, _, _, _, h => by cases h
  | n + 1, i, a, q, ea, h => by
    have h : (match S[i]? with
      | some (Ob.lst ds) => (toPsW (refP S n) ds).map PyData.list
      | _ => none) = some q := h
    cases ei : S[i]? with
    | none => rw [ei] at h; cases h
    | some o =>
      rw [ei] at h
      cases o with
      | dic ks => first | (cases h; done) | exact (show False from h).elim
      | lst ds =>
        obtain ⟨vs, h1, h2, _⟩ := hs.lst ei ea
        cases e : toPsW (refP S n) ds with
        | none => have h : (toPsW (refP S n) ds).map PyData.list = some q := h; rw [e] at h; cases h
        | some qs =>
          have h : (toPsW (refP S n) ds).map PyData.list = some q := h
          rw [e] at h
          cases h
          exact .lst (.of h1) (go hs n ds vs qs h2 e)
where
  go (hs : StOk K μ H S) (n : Nat) : ∀ (ds : List D) (vs : List V) (qs : List PyData), RpA K μ H ds vs → toPsW (refP S n) ds = some qs → DpAll K H vs qs
    | [], _, _, r, h => by
      cases h
      rw [show _ = ([] : List V) from r]
      exact .nil
    | d :: ds, _, qs, ⟨v, r, h1, h2, h3⟩, h => by
      have h : (match toPW (refP S n) d, toPsW (refP S n) ds with
        | some p, some ps => some (p :: ps)
        | _, _ => none) = some qs := h
      cases e1 : toPW (refP S n) d with
      | none => rw [e1] at h; cases h
      | some q1 =>
        cases e2 : toPsW (refP S n) ds with
        | none => rw [e1, e2] at h; cases h
        | some q2 =>
          rw [e1, e2] at h
          cases h
          rw [h1]
          exact .cons (one hs n d v q1 h2 e1) (go hs n ds r q2 h3 e2)
  one (hs : StOk K μ H S) (n : Nat) : ∀ (d : D) (v : V) (q : PyData), Rp K μ H d v → toPW (refP S n) d = some q → Dp K H v q
    | .non, _, _, r, h => by cases h; rw [show _ = V.non from r]; exact .non
    | .bl b, _, _, r, h => by cases h; rw [show _ = V.bl b from r]; exact .bl b
    | .int i, _, _, r, h => by cases h; rw [show _ = V.int i from r]; exact .int i
    | .str x, _, _, r, h => by cases h; rw [show _ = V.str x from r]; exact .str x
    | .tup ds, _, q, ⟨a, vs, e, h1, h2, _⟩, h => by
      have h : (toPsW (refP S n) ds).map PyData.tuple = some q := h
      cases e1 : toPsW (refP S n) ds with
      | none => rw [e1] at h; cases h
      | some qs =>
        rw [e1] at h
        cases h
        rw [e]
        exact .tup h1.sq (go hs n ds vs qs h2 e1)
    | .fix ds, _, q, ⟨a, vs, e, h1, h2, _⟩, h => by
      have h : (toPsW (refP S n) ds).map PyData.list = some q := h
      cases e1 : toPsW (refP S n) ds with
      | none => rw [e1] at h; cases h
      | some qs =>
        rw [e1] at h
        cases h
        rw [e]
        exact .lst h1.sq (go hs n ds vs qs h2 e1)
    | .ref i, _, q, ⟨a, e, ea⟩, h => by
      rw [e]
      exact refP_dp hs n i a q ea h
theorem toP_dp (hs : StOk K μ H S) {d : D} {v : V} {q : PyData} (r : Rp K μ H d v) (h : toP S d = some q) : Dp K H v q := refP_dp.one hs 8 d v q r h
theorem toPs_dp (hs : StOk K μ H S) {ds : List D} {vs : List V} {qs : List PyData} (r : RpA K μ H ds vs) (h : toPs S ds = some qs) : DpAll K H vs qs := refP_dp.go hs 8 ds vs qs r h
end
section
variable {K : Fg} {μ : List Addr} {H : Hp} {S : Sto} {x y : D} {v u : V}
theorem scal_rp (rx : Rp K μ H x v) (ry : Rp K μ H y u) (h : scalD x y = true) : scal v u = true ∧ decide (v = u) = eqSc x y := by
  cases x <;> cases y <;> first
    | (cases h; done)
    | (cases rx; cases ry; refine ⟨rfl, ?_⟩; simp [eqSc])
/-- == and != of data -/
def rEq2 (K : Fg) (neg : Bool) : R2 := fun x y H Q => (scal x y = true ∧ Q (.bl (if neg then !decide (x = y) else decide (x = y))) H) ∨ ∃ d e, Dp K H x d ∧ Dp K H y e ∧ shp d = true ∧ shp e = true ∧ Q (.bl (if neg then !PyData.eqv d e else PyData.eqv d e)) H
theorem dEq_ok (hs : StOk K μ H S) {Q : VK} {b : Bool} (neg : Bool) (rx : Rp K μ H x v) (ry : Rp K μ H y u) (h : dEq S x y = some b) (q : Q (.bl (if neg then !b else b)) H) : rEq2 K neg v u H Q := by
  unfold dEq at h
  split at h
  · rename_i hc
    obtain ⟨h1, h2⟩ := scal_rp rx ry hc
    cases h
    exact .inl ⟨h1, by rw [h2]; exact q⟩
  · split at h
    · rename_i p1 p2 e1 e2
      split at h
      · rename_i hsh
        cases h
        rw [Bool.and_eq_true] at hsh
        exact .inr ⟨p1, p2, toP_dp hs rx e1, toP_dp hs ry e2, hsh.1, hsh.2, q⟩
      · cases h
    · cases h
end
theorem os_cmpI {o : Cop} {g : Int → Int → Bool} {b : PyData → PyData → Bool} (h1 : ∀ i j S, cmpD o (.int i) (.int j) S = .ok (.bl (g i j)) S) (h2 : ∀ x y S, (∀ i j, ¬ (x = .int i ∧ y = .int j)) → cmpD o x y S = ordD o x y S) (hb : ∀ p q, ordP o p q = b p q) : OpS (cmpD o) fun K x y H Q => rI0 (fun i j => .bl (g i j)) x y H Q ∨ rOrd b K x y H Q := by
  intro K μ H S x y v u Q hs rx ry h
  by_cases hc : ∃ i j, x = .int i ∧ y = .int j
  · obtain ⟨i, j, rfl, rfl⟩ := hc
    rw [h1] at h
    exact .inl ⟨i, j, rx, ry, h.at hs _ rfl⟩
  · rw [h2 x y S (fun i j z => hc ⟨i, j, z⟩)] at h
    unfold ordD at h
    cases e1 : toP S x with
    | none => rw [e1] at h; exact h.elim
    | some p =>
      cases e2 : toP S y with
      | none => rw [e1, e2] at h; exact h.elim
      | some q =>
        rw [e1, e2] at h
        obtain ⟨hz, h⟩ := Po.ite (show Po K μ H (if cmpOk p q = true then Res.ok (D.bl (ordP o p q)) S else Res.bad) _ from h)
        exact .inr ⟨p, q, toP_dp hs rx e1, toP_dp hs ry e2, hz, by
          rw [← hb]
          exact h.at hs _ rfl⟩
theorem cmp_else (o : Cop) (ho : (match o with | .eq => false | .ne => false | _ => true) = true) (x y : D) (S : Sto) (h : ∀ i j, ¬ (x = .int i ∧ y = .int j)) : cmpD o x y S = ordD o x y S := by
  cases o <;> first | (cases ho; done) | (cases x <;> first | rfl | (cases y <;> first | rfl | exact absurd ⟨rfl, rfl⟩ (h _ _)))
/-- is None -/
theorem isN_rp {K : Fg} {μ : List Addr} {H : Hp} {x : D} {v : V} (r : Rp K μ H x v) : decide (v = V.non) = isNon x := by
  cases x with
  | tup ds => obtain ⟨a, vs, rfl, _⟩ := r; rfl
  | fix ds => obtain ⟨a, vs, rfl, _⟩ := r; rfl
  | ref i => obtain ⟨a, rfl, _⟩ := r; rfl
  | _ => cases r; rfl
end
end PQ

/-! Tests, subscripts, calls, built-ins. -/
namespace PQ
open PySem PySem.Spec PyProof.Rows L2

/-! ### conditions on the text -/
def notStar : Expr → Bool
  | .Starred .. => false
  | _ => true
theorem star_cons {e : Expr} (h : notStar e = true) (es : List Expr) (env : Env) : starEach (e :: es) env = (false, eval e env) :: starEach es env := by
  cases e <;> first | rfl | (cases h; done)
theorem star_any : ∀ {es : List Expr} (pos : Pos) (env : Env), es.all notStar = true → (backTo pos (starEach es env)).any (·.1) = false
  | [], _, _, _ => rfl
  | e :: es, pos, env, h => by
    rw [List.all_cons, Bool.and_eq_true] at h
    rw [star_cons h.1]
    show (false || (backTo pos (starEach es env)).any (·.1)) = false
    rw [star_any pos env h.2]
    rfl
def plainTest : Expr → Bool
  | .UnaryOp .Not _ _ => false
  | .BoolOp .. => false
  | .IfExp .. => false
  | .Compare .. => false
  | _ => true
theorem plain_true {e : Expr} (h : plainTest e = true) (env : Env) (w : Sem Value) : isTrue e env w = (do let v ← w; standAt e.pos; holding [v] (truthy v)) := by
  cases e with
  | UnaryOp o a p => cases o <;> first | rfl | (cases h; done)
  | _ => first | rfl | (cases h; done)
def notSlice : Expr → Bool
  | .Slice .. => false
  | _ => true
theorem plain_ix {e : Expr} (h : notSlice e = true) : PlainIx e := by
  intro o i
  cases e <;> first | rfl | (cases h; done)
theorem aug_store {i : Expr} (h : notSlice i = true) (ov iv new : Value) : augStore i ov iv new = (do holding [new, ov, iv] (setItem ov iv new); release [new, ov, iv] []; pure .next) := by
  cases i <;> first | rfl | (cases h; done)
theorem sub_store {o i : Expr} {pos : Pos} (h : notSlice i = true) (env : Env) (v : Value) : assign (.Subscript o i pos) env v = (do
      let ov ← holding [v] (eval o env)
      let iv ← holding [v, ov] (eval i env)
      standAt pos
      holding [v, ov, iv] (setItem ov iv v)
      release [v, ov, iv] []) := by
  cases i <;> first | rfl | (cases h; done)
def notComp : Expr → Bool
  | .ListComp .. => false
  | .SetComp .. => false
  | .DictComp .. => false
  | _ => true
theorem no_swap {e : Expr} (h : notComp e = true) (t : Option Expr) (l : Nat) (env : Env) : swapsWith e t l env = pure false := by
  cases e <;> first | rfl | (cases h; done)
def notSet : Expr → Bool
  | .Set .. => false
  | _ => true
theorem no_fold {e : Expr} (h : notSet e = true) (env : Env) (x : Value) : foldedSetIterable e env x = pure x := by
  cases e <;> first | rfl | (cases h; done)
def notCall : Expr → Bool
  | .Call .. => false
  | _ => true
theorem plain_base {e : Expr} (h : notCall e = true) (n : Str) (env : Env) (w : Sem Value) : attributeBase e n env w = w := by
  cases e <;> first | rfl | (cases h; done)

section
variable {p : Pl} {a b c e : Expr} {ca cb cc : CE} {pos : Pos} {ta tb : CT}
/-! ### truth -/
theorem tru_rp {K : Fg} {μ : List Addr} {H : Hp} {S : Sto} (hs : StOk K μ H S) {x : D} {v : V} {k : Bool} (r : Rp K μ H x v) (h : tru S x = some k) : TruV K v H k := by
  have emp : ∀ {ds : List D} {vs : List V}, RpA K μ H ds vs → (!ds.isEmpty) = !vs.isEmpty := fun {ds vs} r => by
    have := r.length
    cases ds <;> cases vs <;> first | rfl | (simp at this)
  cases x with
  | non => cases r; cases h; rfl
  | bl b => cases r; cases h; rfl
  | int i => cases r; cases h; rfl
  | str x =>
    cases r
    have h : (if x.length ≤ sizeLine then some (x.length != 0) else none) = some k := h
    split at h
    · cases h
      refine ⟨by assumption, ?_⟩
      rw [Bool.eq_iff_iff]
      simp only [bne_iff_ne, ne_eq]
      omega
    · cases h
  | tup ds =>
    obtain ⟨a, vs, rfl, h1, h2, _⟩ := r
    cases h
    exact .inr (.inl ⟨vs, h1.sq, emp h2⟩)
  | fix ds =>
    obtain ⟨a, vs, rfl, h1, h2, _⟩ := r
    cases h
    exact .inl ⟨vs, h1.sq, emp h2⟩
  | ref i =>
    have h : (match S[i]? with
      | some (Ob.lst ds) => some (!ds.isEmpty)
      | _ => none) = some k := h
    cases ei : S[i]? with
    | none => rw [ei] at h; cases h
    | some o =>
      rw [ei] at h
      cases o with
      | dic ks => first | (cases h; done) | exact (show False from h).elim
      | lst ds =>
        obtain ⟨a, vs, rfl, _, h1, h2, _⟩ := rp_ref r hs ei
        cases h
        exact .inl ⟨vs, .of h1, emp h2⟩
theorem sd_and {rest : List Expr} (ha : SdE p a ca) (hb : SdE p (.BoolOp .And (b :: rest) pos) cb) : SdE p (.BoolOp .And (a :: b :: rest) pos) (.and ca cb) := fun X C g => (pe_andT (ha X C g) (hb X C g)).pq fun σ H Q ⟨μ, ρ, S, he, hs, h⟩ => by
  unfold evE at h
  refine ⟨μ, ρ, S, he, hs, h.bind.imp fun x S1 μ1 H1 _ e1 s1 h1 v rv => ?_⟩
  obtain ⟨k, ek, h1⟩ := h1.may
  refine ⟨k, tru_rp s1 rv ek, ?_⟩
  cases k with
  | true => rw [if_pos rfl] at h1 ⊢; exact ⟨μ1, ρ, S1, he.mono e1, s1, h1⟩
  | false => rw [if_neg Bool.false_ne_true] at h1 ⊢; exact h1.at s1 v rv
theorem sd_or {rest : List Expr} (ha : SdE p a ca) (hb : SdE p (.BoolOp .Or (b :: rest) pos) cb) : SdE p (.BoolOp .Or (a :: b :: rest) pos) (.or ca cb) := fun X C g => (pe_orT (ha X C g) (hb X C g)).pq fun σ H Q ⟨μ, ρ, S, he, hs, h⟩ => by
  unfold evE at h
  refine ⟨μ, ρ, S, he, hs, h.bind.imp fun x S1 μ1 H1 _ e1 s1 h1 v rv => ?_⟩
  obtain ⟨k, ek, h1⟩ := h1.may
  refine ⟨k, tru_rp s1 rv ek, ?_⟩
  cases k with
  | true => rw [if_pos rfl] at h1 ⊢; exact h1.at s1 v rv
  | false => rw [if_neg Bool.false_ne_true] at h1 ⊢; exact ⟨μ1, ρ, S1, he.mono e1, s1, h1⟩
theorem sd_one {op} (ha : SdE p a ca) : SdE p (.BoolOp op [a] pos) ca := fun X C g => pe_one (ha X C g)
theorem sd_not (ha : SdE p a ca) : SdE p (.UnaryOp .Not a pos) (.not ca) := fun X C g => (pe_notT (ha X C g)).pq fun σ H Q ⟨μ, ρ, S, he, hs, h⟩ => by
  unfold evE at h
  refine ⟨μ, ρ, S, he, hs, h.bind.imp fun x S1 μ1 H1 _ e1 s1 h1 v rv => ?_⟩
  obtain ⟨k, ek, h1⟩ := h1.may
  exact ⟨k, tru_rp s1 rv ek, h1.at s1 _ rfl⟩
theorem sd_ife (ht : SdT p c ta) (ha : SdE p a ca) (hb : SdE p b cb) : SdE p (.IfExp c a b pos) (.ife ta ca cb) := fun X C g => (pe_ifExp (ht X C g) (ha X C g) (hb X C g)).pq fun σ H Q ⟨μ, ρ, S, he, hs, h⟩ => by
  unfold evE at h
  refine ⟨μ, ρ, S, he, hs, h.bind.imp fun k S1 μ1 H1 _ e1 s1 h1 => ?_⟩
  cases k with
  | true => rw [if_pos rfl] at h1 ⊢; exact ⟨μ1, ρ, S1, he.mono e1, s1, h1⟩
  | false => rw [if_neg Bool.false_ne_true] at h1 ⊢; exact ⟨μ1, ρ, S1, he.mono e1, s1, h1⟩

/-! ### tests -/
theorem st_plain (h : plainTest e = true) (ha : SdE p e ca) : SdT p e (.v ca) := fun X C g => (pt_truth (ha X C g) (fun w => plain_true h _ w)).pq fun σ H Q ⟨μ, ρ, S, he, hs, h⟩ => by
  unfold evT at h
  refine ⟨μ, ρ, S, he, hs, h.bind.imp fun x S1 μ1 H1 _ e1 s1 h1 v rv => ?_⟩
  obtain ⟨k, ek, h1⟩ := h1.may
  exact ⟨k, tru_rp s1 rv ek, h1.at s1⟩
/-- a comparison: its value, its test -/
def SdC (p : Pl) (e : Expr) (c : CE) : Prop := ∀ X C, Good X p C → ∃ t, PE X e t ∧ PT X e (tTest t) ∧ ∀ σ H Q, tE X.K (evE C c) σ H Q → t σ H Q
def isB : D → Bool
  | .bl _ => true
  | _ => false
theorem SdC.val (h : SdC p e ca) : SdE p e ca := fun X C g => by
  obtain ⟨t, h1, _, h3⟩ := h X C g
  exact h1.pq h3
theorem SdC.test (h : SdC p e ca) (hb : ∀ C ρ S d S', evE C ca ρ S = .ok d S' → isB d = true) : SdT p e (.v ca) := fun X C g => by
  obtain ⟨t, _, h2, h3⟩ := h X C g
  refine h2.pq fun σ H Q ⟨μ, ρ, S, he, hs, h⟩ => h3 σ H _ ?_
  unfold evT at h
  refine ⟨μ, ρ, S, he, hs, h.bind.imp fun x S1 μ1 H1 ex e1 s1 h1 v rv => ?_⟩
  have := hb _ _ _ _ _ ex
  cases x with
  | bl b =>
    cases rv
    obtain ⟨k, ek, h1⟩ := h1.may
    cases ek
    exact ⟨b, rfl, h1.at s1⟩
  | _ => cases this
theorem sw_and1 (ha : SdT p a ta) : SdW p (.BoolOp .And [a] pos) ta := fun X C g => pw_and1 (ha X C g)
theorem sw_or1 (ha : SdT p a ta) : SdW p (.BoolOp .Or [a] pos) ta := fun X C g => pw_or1 (ha X C g)
theorem sw_and {rest : List Expr} (ha : SdT p a ta) (hb : SdW p (.BoolOp .And (b :: rest) pos) tb) : SdW p (.BoolOp .And (a :: b :: rest) pos) (.and ta tb) := fun X C g => (pw_and (ha X C g) (hb X C g)).pq fun σ H Q ⟨μ, ρ, S, he, hs, h⟩ => by
  unfold evT at h
  refine ⟨μ, ρ, S, he, hs, h.bind.imp fun k S1 μ1 H1 _ e1 s1 h1 => ?_⟩
  cases k with
  | true => rw [if_pos rfl] at h1 ⊢; exact ⟨μ1, ρ, S1, he.mono e1, s1, h1⟩
  | false => rw [if_neg Bool.false_ne_true] at h1 ⊢; exact h1.at s1
theorem sw_or {rest : List Expr} (ha : SdT p a ta) (hb : SdW p (.BoolOp .Or (b :: rest) pos) tb) : SdW p (.BoolOp .Or (a :: b :: rest) pos) (.or ta tb) := fun X C g => (pw_or (ha X C g) (hb X C g)).pq fun σ H Q ⟨μ, ρ, S, he, hs, h⟩ => by
  unfold evT at h
  refine ⟨μ, ρ, S, he, hs, h.bind.imp fun k S1 μ1 H1 _ e1 s1 h1 => ?_⟩
  cases k with
  | true => rw [if_pos rfl] at h1 ⊢; exact h1.at s1
  | false => rw [if_neg Bool.false_ne_true] at h1 ⊢; exact ⟨μ1, ρ, S1, he.mono e1, s1, h1⟩
theorem st_w (h : SdW p e ta) : SdT p e ta := fun X C g => (h X C g).pt
theorem st_not (ha : SdT p a ta) : SdT p (.UnaryOp .Not a pos) (.not ta) := fun X C g => (pt_not (ha X C g)).pq fun σ H Q ⟨μ, ρ, S, he, hs, h⟩ => by
  unfold evT at h
  exact ⟨μ, ρ, S, he, hs, h.bind.imp fun k S1 μ1 H1 _ e1 s1 h1 => h1.at s1⟩

/-! ### comparisons by their sign -/
def copOp : Cop → CmpOp
  | .eq => .Eq | .ne => .NotEq | .lt => .Lt | .le => .LtE | .gt => .Gt | .ge => .GtE
def copR : Cop → Fg → R2
  | .eq, K => rEq2 K false
  | .ne, K => rEq2 K true
  | .lt, K => fun x y H Q => rI0 (fun i j => .bl (decide (i < j))) x y H Q ∨ rOrd (fun d e => PySem.W.dataLt d e) K x y H Q
  | .le, K => fun x y H Q => rI0 (fun i j => .bl (decide (i ≤ j))) x y H Q ∨ rOrd (fun d e => !PySem.W.dataLt e d) K x y H Q
  | .gt, K => fun x y H Q => rI0 (fun i j => .bl (decide (j < i))) x y H Q ∨ rOrd (fun d e => PySem.W.dataLt e d) K x y H Q
  | .ge, K => fun x y H Q => rI0 (fun i j => .bl (decide (j ≤ i))) x y H Q ∨ rOrd (fun d e => !PySem.W.dataLt d e) K x y H Q
theorem cop_op (o : Cop) (X : Cx) (C : Orc) (g : Good X p C) : OpR X (compareOp (copOp o)) (copR o X.K) := by
  have := g.un
  cases o with
  | eq => exact op_eq.or (op_eqP (by omega))
  | ne => exact op_ne.or (op_neP (by omega))
  | lt => exact op_lt.or (op_ltO (by omega))
  | le => exact op_le.or (op_leO (by omega))
  | gt => exact op_gt.or (op_gtO (by omega))
  | ge => exact op_ge.or (op_geO (by omega))
theorem cop_os (o : Cop) : OpS (cmpD o) (copR o) := by
  cases o with
  | eq =>
      intro K μ H S x y v u Q hs rx ry h
      obtain ⟨b, e, h⟩ := Po.may (show Po K μ H (may (dEq S x y) fun b => Res.ok (D.bl b) S) _ from h)
      exact dEq_ok hs false rx ry e (h.at hs _ rfl)
  | ne =>
      intro K μ H S x y v u Q hs rx ry h
      obtain ⟨b, e, h⟩ := Po.may (show Po K μ H (may (dEq S x y) fun b => Res.ok (D.bl (!b)) S) _ from h)
      exact dEq_ok hs true rx ry e (h.at hs _ rfl)
  | lt => exact os_cmpI (fun _ _ _ => rfl) (cmp_else .lt rfl) fun _ _ => rfl
  | le => exact os_cmpI (fun _ _ _ => rfl) (cmp_else .le rfl) fun _ _ => rfl
  | gt => exact os_cmpI (fun _ _ _ => rfl) (cmp_else .gt rfl) fun _ _ => rfl
  | ge => exact os_cmpI (fun _ _ _ => rfl) (cmp_else .ge rfl) fun _ _ => rfl
theorem cmp_bl {o : Cop} {x y : D} {S : Sto} {d : D} {S' : Sto} (h : cmpD o x y S = .ok d S') : ∃ k, d = .bl k := by
  cases o with
  | eq =>
    have h : may (dEq S x y) (fun b => Res.ok (D.bl b) S) = .ok d S' := h
    cases e : dEq S x y with
    | none => rw [e] at h; cases h
    | some k => rw [e] at h; cases h; exact ⟨_, rfl⟩
  | ne =>
    have h : may (dEq S x y) (fun b => Res.ok (D.bl (!b)) S) = .ok d S' := h
    cases e : dEq S x y with
    | none => rw [e] at h; cases h
    | some k => rw [e] at h; cases h; exact ⟨_, rfl⟩
  | _ =>
    have key : ∀ o : Cop, ordD o x y S = .ok d S' → ∃ k, d = .bl k := fun o h => by
      unfold ordD at h
      split at h
      · split at h
        · cases h; exact ⟨_, rfl⟩
        · cases h
      · cases h
    cases x <;> first | exact key .lt h | exact key .le h | exact key .gt h | exact key .ge h | (cases y <;> first | exact key .lt h | exact key .le h | exact key .gt h | exact key .ge h | (injection h with h1 h2; exact ⟨_, h1.symm⟩))
theorem bind_ok {α β : Type} {r : Res α} {f : α → Sto → Res β} {b : β} {S' : Sto} (h : r.bind f = .ok b S') : ∃ a S1, r = .ok a S1 ∧ f a S1 = .ok b S' := by
  cases r with
  | ok a S1 => exact ⟨a, S1, rfl, h⟩
  | exc c fs S1 => cases h
  | bad => cases h
theorem may_ok {α β : Type} {o : Option α} {f : α → Res β} {b : β} {S' : Sto} (h : may o f = .ok b S') : ∃ a, o = some a ∧ f a = .ok b S' := by
  cases o with
  | none => cases h
  | some a => exact ⟨a, rfl, h⟩
theorem sc_cmp (o : Cop) (ha : SdE p a ca) (hb : SdE p b cb) : SdC p (.Compare a [copOp o] [b] pos) (.cmp o ca cb) := fun X C g => by
  have h1 : copOp o ≠ .In := by cases o <;> (intro z; cases z)
  have h2 : copOp o ≠ .NotIn := by cases o <;> (intro z; cases z)
  refine ⟨_, pe_cmpR (cop_op o X C g) (ha X C g) (hb X C g) (nomark b h1 h2), pt_cmpR (cop_op o X C g) (ha X C g) (hb X C g) (nomark b h1 h2), fun σ H Q h => tOp_imp (cop_os o) ?_⟩
  obtain ⟨μ, ρ, S, he, hs, h⟩ := h
  unfold evE at h
  exact ⟨μ, ρ, S, he, hs, h⟩
theorem b_cmp {o : Cop} : ∀ C ρ S d S', evE C (.cmp o ca cb) ρ S = .ok d S' → isB d = true := fun C ρ S d S' h => by
  unfold evE at h
  obtain ⟨x, S1, _, h⟩ := bind_ok h
  obtain ⟨y, S2, _, h⟩ := bind_ok h
  obtain ⟨k, rfl⟩ := cmp_bl h
  rfl
theorem sc_chn (o q : Cop) (hm : lastMarks [copOp o, copOp q] [b, c] = false) (ha : SdE p a ca) (hb : SdE p b cb) (hc : SdE p c cc) : SdC p (.Compare a [copOp o, copOp q] [b, c] pos) (.chn o q ca cb cc) := fun X C g => by
  refine ⟨_, pe_chain (cop_op o X C g) (cop_op q X C g) (ha X C g) (hb X C g) (hc X C g) hm, pt_chain (cop_op o X C g) (cop_op q X C g) (ha X C g) (hb X C g) (hc X C g) hm, fun σ H Q ⟨μ, ρ, S, he, hs, h⟩ => ?_⟩
  unfold evE at h
  refine ⟨μ, ρ, S, he, hs, h.bind.imp fun x S1 μ1 H1 _ e1 s1 h1 v rv => ?_⟩
  refine ⟨μ1, ρ, S1, he.mono e1, s1, h1.bind.imp fun y S2 μ2 H2 _ e2 s2 h2 u ru => ?_⟩
  refine cop_os o X.K μ2 H2 S2 x y v u _ s2 (rv.mono e2) ru (h2.bind.imp fun z S3 μ3 H3 ez e3 s3 h3 w rw_ => ?_)
  obtain ⟨k, rfl⟩ := cmp_bl ez
  refine ⟨k, rw_, ?_⟩
  cases k with
  | true =>
    rw [if_pos rfl]
    refine ⟨μ3, ρ, S3, he.mono (e1.trans (e2.trans e3)), s3, h3.bind.imp fun w' S4 μ4 H4 _ e4 s4 h4 t rt => ?_⟩
    exact cop_os q X.K μ4 H4 S4 y w' u t Q s4 ((ru.mono e3).mono e4) rt h4
  | false =>
    rw [if_neg Bool.false_ne_true]
    exact h3.at s3 _ rfl
theorem b_chn {o q : Cop} : ∀ C ρ S d S', evE C (.chn o q ca cb cc) ρ S = .ok d S' → isB d = true := fun C ρ S d S' h => by
  unfold evE at h
  obtain ⟨x, S1, _, h⟩ := bind_ok h
  obtain ⟨y, S2, _, h⟩ := bind_ok h
  obtain ⟨z, S3, ez, h⟩ := bind_ok h
  obtain ⟨k, rfl⟩ := cmp_bl ez
  cases k with
  | true =>
    obtain ⟨w, S4, _, h⟩ := bind_ok h
    obtain ⟨k, rfl⟩ := cmp_bl h
    rfl
  | false => cases h; rfl
theorem sc_isN {j pos'} (ha : SdE p a ca) : SdC p (.Compare a [.Is] [.Constant .none j pos'] pos) (.isN ca) := fun X C g => by
  refine ⟨_, pe_cmp (pc_isN (ha X C g)), pt_cmp (pc_isN (ha X C g)), fun σ H Q ⟨μ, ρ, S, he, hs, h⟩ => ?_⟩
  unfold evE at h
  refine ⟨μ, ρ, S, he, hs, h.bind.imp fun x S1 μ1 H1 _ e1 s1 h1 v rv => ?_⟩
  show Q (V.bl (decide (v = V.non))) H1
  rw [isN_rp rv]
  exact h1.at s1 _ rfl
theorem sc_notN {j pos'} (ha : SdE p a ca) : SdC p (.Compare a [.IsNot] [.Constant .none j pos'] pos) (.notN ca) := fun X C g => by
  refine ⟨_, pe_cmp (pc_notN (ha X C g)), pt_cmp (pc_notN (ha X C g)), fun σ H Q ⟨μ, ρ, S, he, hs, h⟩ => ?_⟩
  unfold evE at h
  refine ⟨μ, ρ, S, he, hs, h.bind.imp fun x S1 μ1 H1 _ e1 s1 h1 v rv => ?_⟩
  show Q (V.bl (!decide (v = V.non))) H1
  rw [isN_rp rv]
  exact h1.at s1 _ rfl
theorem b_isN : ∀ C ρ S d S', evE C (.isN ca) ρ S = .ok d S' → isB d = true := fun C ρ S d S' h => by
  unfold evE at h
  obtain ⟨x, S1, _, h⟩ := bind_ok h
  cases h; rfl
theorem b_notN : ∀ C ρ S d S', evE C (.notN ca) ρ S = .ok d S' → isB d = true := fun C ρ S d S' h => by
  unfold evE at h
  obtain ⟨x, S1, _, h⟩ := bind_ok h
  cases h; rfl
end
end PQ

/-! Subscripts, calls, built-ins. -/
namespace PQ
open PySem PySem.Spec PyProof.Rows L2
section
variable {p : Pl} {a b c e : Expr} {ca cb cc : CE} {cr : CR} {pos : Pos}
section
variable {K : Fg} {μ : List Addr} {H : Hp} {S : Sto} {x y d : D} {v u : V} {Q : VK} {ds : List D} {vs : List V} {r : RV}
theorem ls_rv (hs : StOk K μ H S) (rv : RvR K μ H r v) (h : lsOf S r = some ds) : ∃ a vs, v = .ref a ∧ SqL K H a vs ∧ RpA K μ H ds vs ∧ ds.length ≤ sizeLine := by
  cases r with
  | own es =>
    cases h
    obtain ⟨a, vs, h1, h2, _, h4, h5⟩ := rv
    exact ⟨a, vs, h1, .of h2, h4, h5⟩
  | val d =>
    cases d with
    | fix es =>
      cases h
      obtain ⟨a, vs, h1, h2, h3, h4⟩ := rv
      exact ⟨a, vs, h1, h2.sq, h3, h4⟩
    | ref i =>
      have h : (match S[i]? with
        | some (Ob.lst ds) => some ds
        | _ => none) = some ds := h
      cases ei : S[i]? with
      | none => rw [ei] at h; cases h
      | some o =>
        rw [ei] at h
        cases o with
        | dic ks => first | (cases h; done) | exact (show False from h).elim
        | lst es =>
          cases h
          obtain ⟨a, vs, h1, _, h2, h3, h4⟩ := rp_ref rv hs ei
          exact ⟨a, vs, h1, .of h2, h3, h4⟩
    | _ => cases h
theorem tr_rv (hs : StOk K μ H S) (rv : RvR K μ H r v) (h : trOf S r = some ds) : ∃ a vs, v = .ref a ∧ H a = some (.lst vs) ∧ RpA K μ H ds vs ∧ ds.length ≤ sizeLine := by
  cases r with
  | own es =>
    cases h
    obtain ⟨a, vs, h1, h2, _, h4, h5⟩ := rv
    exact ⟨a, vs, h1, h2, h4, h5⟩
  | val d =>
    cases d with
    | ref i =>
      have h : (match S[i]? with
        | some (Ob.lst ds) => some ds
        | _ => none) = some ds := h
      cases ei : S[i]? with
      | none => rw [ei] at h; cases h
      | some o =>
        rw [ei] at h
        cases o with
        | dic ks => first | (cases h; done) | exact (show False from h).elim
        | lst es =>
          cases h
          obtain ⟨a, vs, h1, _, h2, h3, h4⟩ := rp_ref rv hs ei
          exact ⟨a, vs, h1, h2, h3, h4⟩
    | _ => cases h
theorem sq_rv (hs : StOk K μ H S) (rv : RvR K μ H r v) (h : sqOf S r = some ds) : ∃ a vs, v = .ref a ∧ (SqL K H a vs ∨ (SqN K H a vs ∧ r = .val (.tup ds))) ∧ RpA K μ H ds vs ∧ ds.length ≤ sizeLine := by
  by_cases ht : ∃ es, r = .val (.tup es)
  · obtain ⟨es, rfl⟩ := ht
    cases h
    obtain ⟨a, vs, h1, h2, h3, h4⟩ := rv
    exact ⟨a, vs, h1, .inr ⟨h2, rfl⟩, h3, h4⟩
  · have h : lsOf S r = some ds := by
      cases r with
      | own es => exact h
      | val d => cases d <;> first | exact h | exact absurd ⟨_, rfl⟩ ht
    obtain ⟨a, vs, h1, h2, h3, h4⟩ := ls_rv hs rv h
    exact ⟨a, vs, h1, .inl h2, h3, h4⟩
theorem sq_or {a : Addr} {X : Prop} (h : SqL K H a vs ∨ (SqN K H a vs ∧ X)) : SqL K H a vs ∨ SqT K H a vs := h.elim .inl fun z => .inr z.1.sq
theorem rp_ints : ∀ {ds : List D} {vs : List V} {ns : List Int}, RpA K μ H ds vs → intsOf ds = some ns → vs = ns.map V.int
  | [], _, _, r, h => by cases h; exact r
  | d :: ds, _, ns, ⟨v, r, e, h1, h2⟩, h => by
    cases d with
    | int i =>
      have h : (intsOf ds).map (i :: ·) = some ns := h
      cases e1 : intsOf ds with
      | none => rw [e1] at h; cases h
      | some ms =>
        rw [e1] at h
        cases h
        rw [e, show v = V.int i from h1, rp_ints h2 e1]
        rfl
    | _ => cases h
theorem rp_bools : ∀ {ds : List D} {vs : List V} {ns : List Bool}, RpA K μ H ds vs → boolsOf ds = some ns → vs = ns.map V.bl
  | [], _, _, r, h => by cases h; exact r
  | d :: ds, _, ns, ⟨v, r, e, h1, h2⟩, h => by
    cases d with
    | bl i =>
      have h : (boolsOf ds).map (i :: ·) = some ns := h
      cases e1 : boolsOf ds with
      | none => rw [e1] at h; cases h
      | some ms =>
        rw [e1] at h
        cases h
        rw [e, show v = V.bl i from h1, rp_bools h2 e1]
        rfl
    | _ => cases h
theorem rp_at (r : RpA K μ H ds vs) {i : Int} (h : atI ds i = some d) : ∃ v, atI vs i = some v ∧ Rp K μ H d v := by
  unfold atI at h ⊢
  rw [← r.length]
  cases e : ixN ds.length i with
  | none => rw [e] at h; cases h
  | some j =>
    rw [e] at h
    exact r.get h
theorem cutD_ok (r : RpA K μ H ds vs) (lo hi : Option Int) : RpA K μ H (cutD ds lo hi) (cutV vs lo hi) := by
  unfold cutD cutV
  rw [r.length]
  exact (r.drop _).take _
theorem cutD_len (ds : List D) (lo hi : Option Int) : (cutD ds lo hi).length ≤ ds.length := by
  unfold cutD
  rw [List.length_take, List.length_drop]
  omega
end

/-! ### a[i], a[lo:hi] -/
/-- d[k] of a dict -/
def rIxD : R2 := fun x y H Q => ∃ a v, x = .ref a ∧ DGet H a y (some v) ∧ Q v H
theorem ix_dic {X : Cx} (hu : X.A.units + 1 < cLine) : IxR X rIxD := by
  intro value slice pins s σ H x y v u Q I rx ry h hs
  obtain ⟨a, w, rfl, g, q⟩ := h
  cases rx
  exact tail_any (dict_typeIs I g) PySem.F.slot_dict_getitem.lookup (d_getItem hu I g ry fun w' s' I' rw' => ⟨w, H, I', rw', q⟩) hs
def rIx2 (K : Fg) : R2 := fun x y H Q => rIxD x y H Q ∨ rIx K x y H Q
theorem dic_rv {K : Fg} {μ : List Addr} {H : Hp} {S : Sto} {v : V} {r : RV} {ks : List (Key × D)} (hs : StOk K μ H S) (rv : RvR K μ H r v) (h : dicOf S r = some ks) : ∃ a vs, v = .ref a ∧ H a = some (.dK vs) ∧ RpK K μ H ks vs ∧ ks.length ≤ sizeLine ∧ Nk ks := by
  cases r with
  | own es => cases h
  | val d =>
    cases d with
    | ref i =>
      have h : (match S[i]? with
        | some (Ob.dic ks) => some ks
        | _ => none) = some ks := h
      cases ei : S[i]? with
      | none => rw [ei] at h; cases h
      | some o =>
        rw [ei] at h
        cases o with
        | lst ds => cases h
        | dic ks' =>
          cases h
          obtain ⟨a, e1, ea⟩ := rv
          obtain ⟨vs, h1, h2, h3, h4⟩ := hs.dic ei ea
          exact ⟨a, vs, e1, h1, h2, h3, h4⟩
    | _ => cases h
theorem rp_refD {K : Fg} {μ : List Addr} {H : Hp} {S : Sto} {v : V} {i : Nat} (r : Rp K μ H (.ref i) v) (hs : StOk K μ H S) {ks : List (Key × D)} (e : S[i]? = some (.dic ks)) : ∃ a vs, v = .ref a ∧ μ[i]? = some a ∧ H a = some (.dK vs) ∧ RpK K μ H ks vs ∧ ks.length ≤ sizeLine ∧ Nk ks := by
  obtain ⟨a, rfl, ea⟩ := r
  obtain ⟨vs, h1, h2, h3, h4⟩ := hs.dic e ea
  exact ⟨a, vs, rfl, ea, h1, h2, h3, h4⟩
theorem os_idx : OpS idxD rIx2 := by
  intro K μ H S x y v u Q hs rx ry h
  cases x with
  | tup ds =>
    cases y with
    | int i =>
      obtain ⟨d, e, h⟩ := Po.may (show Po K μ H (may (atI ds i) fun d => Res.ok d S) _ from h)
      obtain ⟨a, vs, rfl, h1, h2, _⟩ := rx
      obtain ⟨w, e1, r1⟩ := rp_at h2 e
      exact .inr (.inr (.inl ⟨a, vs, i, w, rfl, ry, h1.sq, e1, h.at hs w r1⟩))
    | _ => exact (show False from h).elim
  | fix ds =>
    cases y with
    | int i =>
      obtain ⟨d, e, h⟩ := Po.may (show Po K μ H (may (atI ds i) fun d => Res.ok d S) _ from h)
      obtain ⟨a, vs, rfl, h1, h2, _⟩ := rx
      obtain ⟨w, e1, r1⟩ := rp_at h2 e
      exact .inr (.inl ⟨a, vs, i, w, rfl, ry, h1.sq, e1, h.at hs w r1⟩)
    | _ => exact (show False from h).elim
  | ref n =>
    cases y with
    | int i =>
      have h : Po K μ H (match S[n]? with
        | some (Ob.lst ds) => may (atI ds i) fun d => Res.ok d S
        | some (Ob.dic ks) => may (gD ks (.inl i)) fun d => Res.ok d S
        | none => Res.bad) _ := h
      cases ei : S[n]? with
      | none => rw [ei] at h; exact (show False from h).elim
      | some o =>
        rw [ei] at h
        cases o with
        | lst ds =>
          obtain ⟨d, e, h⟩ := Po.may h
          obtain ⟨a, vs, rfl, _, h1, h2, _⟩ := rp_ref rx hs ei
          obtain ⟨w, e1, r1⟩ := rp_at h2 e
          exact .inr (.inl ⟨a, vs, i, w, rfl, ry, .of h1, e1, h.at hs w r1⟩)
        | dic ks =>
          obtain ⟨d, e, h⟩ := Po.may h
          obtain ⟨a, vs, rfl, _, h1, h2, _⟩ := rp_refD rx hs ei
          obtain ⟨w, e1, r1⟩ := h2.getS e
          refine .inl ⟨a, w, rfl, ?_, h.at hs w r1⟩
          rw [show u = kV (.inl i) from ry, ← e1]
          exact DGet.k h1
    | str z =>
      have h : Po K μ H (match S[n]? with
        | some (Ob.dic ks) => may (gD ks (.inr z)) fun d => Res.ok d S
        | _ => Res.bad) _ := h
      cases ei : S[n]? with
      | none => rw [ei] at h; exact (show False from h).elim
      | some o =>
        rw [ei] at h
        cases o with
        | lst ds => exact (show False from h).elim
        | dic ks =>
          obtain ⟨d, e, h⟩ := Po.may h
          obtain ⟨a, vs, rfl, _, h1, h2, _⟩ := rp_refD rx hs ei
          obtain ⟨w, e1, r1⟩ := h2.getS e
          refine .inl ⟨a, w, rfl, ?_, h.at hs w r1⟩
          rw [show u = kV (.inr z) from ry, ← e1]
          exact DGet.k h1
    | _ => exact (show False from h).elim
  | str z =>
    cases y with
    | int i =>
      obtain ⟨hz, h⟩ := Po.ite (show Po K μ H (if z.length ≤ sizeLine then may (atI z.cps.toList i) fun c => Res.ok (D.str ⟨#[c]⟩) S else Res.bad) _ from h)
      obtain ⟨k, e, h⟩ := Po.may h
      exact .inr (.inr (.inr ⟨z, i, k, rx, ry, hz, e, h.at hs _ rfl⟩))
    | _ => exact (show False from h).elim
  | _ => exact (show False from h).elim
theorem sd_idx (hn : notSlice b = true) (ha : SdE p a ca) (hb : SdE p b cb) : SdE p (.Subscript a b pos) (.idx ca cb) := fun X C g =>
  (pe_ix (r := rIx2 X.K) ((ix_dic (by have := g.un; omega)).or ix_seq) (ha X C g) (hb X C g) (plain_ix hn)).pq fun σ H Q h => tOp_imp os_idx (by
    obtain ⟨μ, ρ, S, he, hs, h⟩ := h
    unfold evE at h
    exact ⟨μ, ρ, S, he, hs, h⟩)
theorem so_none : SdO p none .none := fun X C g => po_none.pq fun σ H Q ⟨μ, ρ, S, he, hs, h⟩ => by
  unfold evO at h
  exact h.at hs
theorem so_some (ha : SdE p a ca) : SdO p (some a) (.some ca) := fun X C g => (po_some (ha X C g)).pq fun σ H Q ⟨μ, ρ, S, he, hs, h⟩ => by
  unfold evO at h
  refine ⟨μ, ρ, S, he, hs, h.bind.imp fun x S1 μ1 H1 _ e1 s1 h1 v rv => ?_⟩
  cases x with
  | int i => exact ⟨i, rv, h1.at s1⟩
  | _ => exact (show False from h1).elim
def rSl3 (K : Fg) : V → Option Int → Option Int → Hp → VK → Prop := fun x lo hi H Q => rSlN K x lo hi H Q ∨ (rSlL K x lo hi H Q ∨ rSlS x lo hi H Q)
theorem os_slc {K : Fg} {μ : List Addr} {H : Hp} {S : Sto} {x : D} {v : V} {Q : VK} {lo hi : Option Int} (hs : StOk K μ H S) (rx : Rp K μ H x v) (h : Po K μ H (slcD x lo hi S) fun d _ μ' H' => ∀ v, Rp K μ' H' d v → Q v H') : rSl3 K v lo hi H Q := by
  cases x with
  | tup ds =>
    have h : Po K μ H (Res.ok (D.tup (cutD ds lo hi)) S) _ := h
    obtain ⟨a, vs, rfl, h1, h2, h3⟩ := rx
    have hz : (cutD ds lo hi).length ≤ sizeLine := Nat.le_trans (cutD_len _ _ _) h3
    refine .inl ⟨a, vs, rfl, h1.sq, fun hw => ?_, fun _ p o hp c1 c2 => ?_⟩
    · refine h.at hs _ ⟨a, vs, rfl, h1, ?_, hz⟩
      have e : cutV vs lo hi = vs := by
        unfold cutV
        rw [hw.1, hw.2, List.drop_zero, Nat.sub_zero, List.take_length]
      have := cutD_ok h2 lo hi
      rw [e] at this
      exact this
    · exact h μ _ (hs.fresh hp _) (hs.freshOk hp _) _ (rp_tup hs hz (cutD_ok h2 lo hi) hp c1 c2)
  | fix ds =>
    have h : Po K μ H (Res.ok (D.ref S.length) (S ++ [Ob.lst (cutD ds lo hi)])) _ := h
    obtain ⟨a, vs, rfl, h1, h2, h3⟩ := rx
    refine .inr (.inl ⟨a, vs, rfl, h1.sq, fun p hp => ?_⟩)
    obtain ⟨e1, s1, r1⟩ := take_new hs (Nat.le_trans (cutD_len _ _ _) h3) (cutD_ok h2 lo hi) hp
    exact h _ _ e1 s1 _ r1
  | ref n =>
    have h : Po K μ H (match S[n]? with
      | some (Ob.lst ds) => Res.ok (D.ref S.length) (S ++ [Ob.lst (cutD ds lo hi)])
      | _ => Res.bad) _ := h
    cases ei : S[n]? with
    | none => rw [ei] at h; exact (show False from h).elim
    | some o =>
      rw [ei] at h
      cases o with
      | dic ks => first | (cases h; done) | exact (show False from h).elim
      | lst ds =>
        obtain ⟨a, vs, rfl, _, h1, h2, h3⟩ := rp_ref rx hs ei
        refine .inr (.inl ⟨a, vs, rfl, .of h1, fun p hp => ?_⟩)
        obtain ⟨e1, s1, r1⟩ := take_new hs (Nat.le_trans (cutD_len _ _ _) h3) (cutD_ok h2 lo hi) hp
        exact h _ _ e1 s1 _ r1
  | str z =>
    obtain ⟨hz, h⟩ := Po.ite (show Po K μ H (if z.length ≤ sizeLine then Res.ok (D.str (cutS z lo hi)) S else Res.bad) _ from h)
    exact .inr (.inr ⟨z, rx, hz, h.at hs _ rfl⟩)
  | _ => exact (show False from h).elim
theorem sd_slc {lo hi : Option Expr} {cl ch : CO} {p2 : Pos} (ha : SdE p a ca) (hl : SdO p lo cl) (hh : SdO p hi ch) : SdE p (.Subscript a (.Slice lo hi none p2) pos) (.slc ca cl ch) := fun X C g =>
  (pe_slice (r := rSl3 X.K) (sl_tupN.or (sl_list.or sl_str)) (ha X C g) (hl X C g) (hh X C g)).pq fun σ H Q ⟨μ, ρ, S, he, hs, h⟩ => by
    unfold evE at h
    refine ⟨μ, ρ, S, he, hs, h.bind.imp fun x S1 μ1 H1 _ e1 s1 h1 v rv => ?_⟩
    refine ⟨μ1, ρ, S1, he.mono e1, s1, h1.bind.imp fun l S2 μ2 H2 _ e2 s2 h2 => ?_⟩
    refine ⟨μ2, ρ, S2, he.mono (e1.trans e2), s2, h2.bind.imp fun u S3 μ3 H3 _ e3 s3 h3 => ?_⟩
    exact os_slc s3 ((rv.mono e2).mono e3) h3
theorem sq_rev {k : Nat} {p1 p2 p3 : Pos} (ha : SdR p a cr) : SdQ p (.Subscript a (.Slice none none (some (.UnaryOp .USub (.Constant (.int 1) k p1) p2)) p3) pos) (.rev cr) := fun X C g =>
  (pe_revL (ha X C g)).pq fun σ H Q ⟨μ, ρ, S, he, hs, h⟩ => by
    unfold evQ at h
    refine ⟨μ, ρ, S, he, hs, h.bind.imp fun r S1 μ1 H1 _ e1 s1 h1 v rv => ?_⟩
    obtain ⟨ds, eds, h1⟩ := h1.may
    obtain ⟨a, vs, rfl, h2, h3, h4⟩ := ls_rv s1 rv eds
    refine ⟨a, vs, rfl, h2, fun q hq => ?_⟩
    refine h1 μ1 _ (s1.fresh hq _) (s1.freshOk hq _) q _ (e1.alive _ hq) upd_same (fun m => ?_) (h3.mono (s1.fresh hq _)).reverse (by rw [List.length_reverse]; exact h4)
    obtain ⟨w, ew, _⟩ := s1.mem m
    rw [hq] at ew; cases ew

/-! ### calls of defs -/
theorem sd_call {i : Nat} {x : Str} {es : List Expr} {c : CEs} {q : Pos} (hT : p.T[i]? = some x) (hg : p.sc.names.lookup x = some .globalImplicit) (hd : (x == ("__debug__" : Str)) = false) (hn : notStar e = true) (hns : es.all notStar = true) (ha : SdA p (e :: es) c) :
    SdE p (.Call (.Name x q) (e :: es) [] pos) (.call i c) := fun X C g => by
  obtain ⟨f, fd, ps, k, hm, F, hr, hk, hb⟩ := g.fn i x hT
  refine (pe_call (dvs := []) F hr (by show X.env.scope.names.lookup x = _; rw [g.sc]; exact hg) hm hk hb .nil pass0 (ha X C g) hd (star_cons hn es _) (star_any _ _ hns)).pq fun σ H Q ⟨μ, ρ, S, he, hs, h⟩ => ?_
  unfold evE at h
  refine ⟨μ, ρ, S, he, hs, h.bind.imp fun ds S1 μ1 H1 _ e1 s1 h1 vs rvs => ?_⟩
  exact ⟨μ1, ds, S1, s1, by rw [List.append_nil]; exact rvs, h1⟩
theorem sd_call0 {i : Nat} {x : Str} {q : Pos} (hT : p.T[i]? = some x) (hg : p.sc.names.lookup x = some .globalImplicit) (hd : (x == ("__debug__" : Str)) = false) :
    SdE p (.Call (.Name x q) [] [] pos) (.call i .nil) := fun X C g => by
  obtain ⟨f, fd, ps, k, hm, F, hr, hk, hb⟩ := g.fn i x hT
  refine (pe_call0 (dvs := []) F hr (by show X.env.scope.names.lookup x = _; rw [g.sc]; exact hg) hm hk hb .nil pass0 hd).pq fun σ H Q ⟨μ, ρ, S, he, hs, h⟩ => ?_
  unfold evE at h
  refine ⟨μ, [], S, hs, rfl, ?_⟩
  have h := h.bind
  unfold evEs at h
  exact h.at hs

/-! ### built-ins by name -/
/-- one argument, walked -/
theorem tCB_R {r : List V → Hp → VK → Prop} {K : Fg} {f : En → Sto → Res RV} {g : RV → Sto → Res D} {σ : Slots} {H : Hp} {Q : VK}
    (hg : ∀ (μ : List Addr) (H : Hp) (S : Sto) (x : RV) (v : V), StOk K μ H S → RvR K μ H x v → Po K μ H (g x S) (fun d _ μ' H' => ∀ v, Rp K μ' H' d v → Q v H') → r [v] H Q)
    (h : tE K (fun ρ S => (f ρ S).bind fun v S1 => g v S1) σ H Q) : tCB r (tCons (tR K f) tNil) σ H Q := by
  obtain ⟨μ, ρ, S, he, hs, h⟩ := h
  exact ⟨μ, ρ, S, he, hs, h.bind.imp fun x S1 μ1 H1 _ e1 s1 h1 v rv => hg μ1 H1 S1 x v s1 rv h1⟩
theorem tCB_E {r : List V → Hp → VK → Prop} {K : Fg} {f : En → Sto → Res D} {g : D → Sto → Res D} {σ : Slots} {H : Hp} {Q : VK}
    (hg : ∀ (μ : List Addr) (H : Hp) (S : Sto) (x : D) (v : V), StOk K μ H S → Rp K μ H x v → Po K μ H (g x S) (fun d _ μ' H' => ∀ v, Rp K μ' H' d v → Q v H') → r [v] H Q)
    (h : tE K (fun ρ S => (f ρ S).bind fun v S1 => g v S1) σ H Q) : tCB r (tCons (tE K f) tNil) σ H Q := by
  obtain ⟨μ, ρ, S, he, hs, h⟩ := h
  exact ⟨μ, ρ, S, he, hs, h.bind.imp fun x S1 μ1 H1 _ e1 s1 h1 v rv => hg μ1 H1 S1 x v s1 rv h1⟩
theorem tCB_EE {r : List V → Hp → VK → Prop} {K : Fg} {f f2 : En → Sto → Res D} {g : D → D → Sto → Res D} {σ : Slots} {H : Hp} {Q : VK}
    (hg : ∀ (μ : List Addr) (H : Hp) (S : Sto) (x y : D) (v u : V), StOk K μ H S → Rp K μ H x v → Rp K μ H y u → Po K μ H (g x y S) (fun d _ μ' H' => ∀ v, Rp K μ' H' d v → Q v H') → r [v, u] H Q)
    (h : tE K (fun ρ S => (f ρ S).bind fun v S1 => (f2 ρ S1).bind fun w S2 => g v w S2) σ H Q) : tCB r (tCons (tE K f) (tCons (tE K f2) tNil)) σ H Q := by
  obtain ⟨μ, ρ, S, he, hs, h⟩ := h
  refine ⟨μ, ρ, S, he, hs, h.bind.imp fun x S1 μ1 H1 _ e1 s1 h1 v rv => ?_⟩
  exact ⟨μ1, ρ, S1, he.mono e1, s1, h1.bind.imp fun y S2 μ2 H2 _ e2 s2 h2 u ru => hg μ2 H2 S2 x y v u s2 (rv.mono e2) ru h2⟩
section
variable {x : Str} {q : Pos}
theorem gl_of {X : Cx} {C : Orc} (g : Good X p C) (hg : p.sc.names.lookup x = some .globalImplicit) : Gl X x := by
  show X.env.scope.names.lookup x = _
  rw [g.sc]
  exact hg
/-- a module's name for a value -/
theorem sd_con {d : D} (h : (x, Gv.con d) ∈ p.G) (hg : p.sc.names.lookup x = some .globalImplicit) (hd : (x == ("__debug__" : Str)) = false) : SdE p (.Name x q) (.lit d) := fun X C g => by
  obtain ⟨v, u, h1, h2, h3⟩ := g.glb x _ h
  exact (pe_glob (gl_of g hg) h1 h2 hd).pq fun σ H Q ⟨μ, ρ, S, he, hs, h⟩ => by
    unfold evE at h
    exact h.at hs v (h3 _ _)
/-- f(r), f a built-in function -/
theorem sd_agg {f : Ag} {id : String} {r : Fg → List V → Hp → VK → Prop} (hc : ∀ X C, Good X p C → CallR X (.builtin id) (r X.K)) (hb : x ∈ p.B) (hg : p.sc.names.lookup x = some .globalImplicit) (hv : bootBuiltins x = some (.builtin id)) (hn : x ≠ "__name__") (hdb : (x == ("__debug__" : Str)) = false) (hst : notStar e = true)
    (ho : ∀ (K : Fg) (μ : List Addr) (H : Hp) (S : Sto) (x : RV) (v : V) (Q : VK), StOk K μ H S → RvR K μ H x v → Po K μ H (aggD f x S) (fun d _ μ' H' => ∀ v, Rp K μ' H' d v → Q v H') → r K [v] H Q) (ha : SdR p e cr) :
    SdE p (.Call (.Name x q) [e] [] pos) (.agg f cr) := fun X C g =>
  (pe_callB (hc X C g) (gl_of g hg) (g.blt x hb) hv (pa_cons (ha X C g) pa_nil (star_cons hst [] _)) hn hdb (star_cons hst [] _) rfl).pq fun σ H Q h => tCB_R (fun μ H S x v => ho X.K μ H S x v Q) (by
    obtain ⟨μ, ρ, S, he, hs, h⟩ := h
    unfold evE at h
    exact ⟨μ, ρ, S, he, hs, h⟩)
end
theorem greatest_spec : ∀ {ns : List Int} {m : Int}, greatest ns = some m → m ∈ ns ∧ ∀ y, y ∈ ns → y ≤ m
  | [x], m, h => by cases h; exact ⟨List.mem_singleton.mpr rfl, fun y hy => by rw [List.mem_singleton.mp hy]; exact Int.le_refl _⟩
  | x :: z :: r, m, h => by
    have h : (greatest (z :: r)).map (fun m => if x < m then m else x) = some m := h
    cases e : greatest (z :: r) with
    | none => rw [e] at h; cases h
    | some k =>
      rw [e] at h
      obtain ⟨h1, h2⟩ := greatest_spec e
      have h : (if x < k then k else x) = m := Option.some.inj h
      subst h
      split
      · exact ⟨List.mem_cons_of_mem _ h1, fun y hy => by
          rcases List.mem_cons.mp hy with e | hy
          · rw [e]; omega
          · exact h2 y hy⟩
      · exact ⟨List.mem_cons_self, fun y hy => by
          rcases List.mem_cons.mp hy with e | hy
          · rw [e]; exact Int.le_refl _
          · have := h2 y hy
            omega⟩
theorem least_spec : ∀ {ns : List Int} {m : Int}, least ns = some m → m ∈ ns ∧ ∀ y, y ∈ ns → m ≤ y
  | [x], m, h => by cases h; exact ⟨List.mem_singleton.mpr rfl, fun y hy => by rw [List.mem_singleton.mp hy]; exact Int.le_refl _⟩
  | x :: z :: r, m, h => by
    have h : (least (z :: r)).map (fun m => if m < x then m else x) = some m := h
    cases e : least (z :: r) with
    | none => rw [e] at h; cases h
    | some k =>
      rw [e] at h
      obtain ⟨h1, h2⟩ := least_spec e
      have h : (if k < x then k else x) = m := Option.some.inj h
      subst h
      split
      · exact ⟨List.mem_cons_of_mem _ h1, fun y hy => by
          rcases List.mem_cons.mp hy with e | hy
          · rw [e]; omega
          · exact h2 y hy⟩
      · exact ⟨List.mem_cons_self, fun y hy => by
          rcases List.mem_cons.mp hy with e | hy
          · rw [e]; exact Int.le_refl _
          · have := h2 y hy
            omega⟩
section
variable {q : Pos}
/-- len of a dict -/
def rLenD : List V → Hp → VK → Prop := fun xs H Q => ∃ a kvs, xs = [V.ref a] ∧ H a = some (.dK kvs) ∧ Q (.int kvs.length) H
theorem cr_lenD {X : Cx} : CallR X (.builtin "len") rLenD := by
  intro pins s σ H xs us Q I r q
  obtain ⟨a, kvs, rfl, hk, q⟩ := q
  rw [Vals.ref1 r]
  exact d_len I (.inl hk) fun t s' I' => ⟨.int kvs.length, H, I', ⟨t, rfl⟩, q⟩
theorem sd_len (hb : ("len" : Str) ∈ p.B) (hg : p.sc.names.lookup ("len" : Str) = some .globalImplicit) (hst : notStar e = true) (ha : SdR p e cr) : SdE p (.Call (.Name "len" q) [e] [] pos) (.agg .len cr) :=
  sd_agg (r := fun K xs H Q => (∃ x n, xs = [x] ∧ LenV K x H n ∧ Q (.int n) H) ∨ rLenD xs H Q) (fun X C g => call_len.or cr_lenD) hb hg boot_len (by decide) (by decide) hst (fun K μ H S x v Q hs rv h => by
    by_cases hx : ∃ z, x = .val (.str z)
    · obtain ⟨z, rfl⟩ := hx
      obtain ⟨hz, h⟩ := Po.ite (show Po K μ H (if z.length ≤ sizeLine then Res.ok (D.int z.length) S else Res.bad) _ from h)
      cases rv
      exact .inl ⟨_, z.length, rfl, ⟨hz, rfl⟩, h.at hs _ rfl⟩
    · have h : Po K μ H (may (lenOf S x) fun n => Res.ok (D.int n) S) (fun d _ μ' H' => ∀ v, Rp K μ' H' d v → Q v H') := by
        cases x with
        | own ds => exact h
        | val d => cases d <;> first | exact h | exact absurd ⟨_, rfl⟩ hx
      obtain ⟨n, e1, h⟩ := h.may
      unfold lenOf at e1
      cases e2 : sqOf S x with
      | some ds =>
        rw [e2] at e1
        cases e1
        obtain ⟨a, vs, rfl, h1, h2, _⟩ := sq_rv hs rv e2
        refine .inl ⟨_, ds.length, rfl, ?_, h.at hs _ rfl⟩
        rcases h1 with h1 | ⟨h1, _⟩
        · exact .inl ⟨vs, h1, h2.length⟩
        · exact .inr ⟨vs, h1.sq, h2.length⟩
      | none =>
        rw [e2] at e1
        cases e3 : dicOf S x with
        | none => rw [e3] at e1; cases e1
        | some ks =>
          rw [e3] at e1
          cases e1
          obtain ⟨a, vs, rfl, h1, h2, h3, h4⟩ := dic_rv hs rv e3
          refine .inr ⟨a, vs, rfl, h1, ?_⟩
          rw [← h2.length]
          exact h.at hs _ rfl) ha
theorem sd_sum (hb : ("sum" : Str) ∈ p.B) (hg : p.sc.names.lookup ("sum" : Str) = some .globalImplicit) (hst : notStar e = true) (ha : SdR p e cr) : SdE p (.Call (.Name "sum" q) [e] [] pos) (.agg .sum cr) :=
  sd_agg (r := rSum) (fun X C g => cr_sum g.calm) hb hg (by decide +kernel) (by decide) (by decide) hst (fun K μ H S x v Q hs rv h => by
    obtain ⟨ds, e1, h⟩ := Po.may (show Po K μ H (may (lsOf S x) fun ds => may (intsOf ds) fun ns => Res.ok (D.int ns.sum) S) _ from h)
    obtain ⟨ns, e2, h⟩ := h.may
    obtain ⟨a, vs, rfl, h1, h2, _⟩ := ls_rv hs rv e1
    exact ⟨a, ns, rfl, by rw [← rp_ints h2 e2]; exact h1, h.at hs _ rfl⟩) ha
theorem sd_max (hb : ("max" : Str) ∈ p.B) (hg : p.sc.names.lookup ("max" : Str) = some .globalImplicit) (hst : notStar e = true) (ha : SdR p e cr) : SdE p (.Call (.Name "max" q) [e] [] pos) (.agg .max cr) :=
  sd_agg (r := rMax) (fun X C g => cr_max g.calm) hb hg (by decide +kernel) (by decide) (by decide) hst (fun K μ H S x v Q hs rv h => by
    obtain ⟨ds, e1, h⟩ := Po.may (show Po K μ H (may (lsOf S x) fun ds => may (intsOf ds) fun ns => may (greatest ns) fun m => Res.ok (D.int m) S) _ from h)
    obtain ⟨ns, e2, h⟩ := h.may
    obtain ⟨m, e3, h⟩ := h.may
    obtain ⟨a, vs, rfl, h1, h2, _⟩ := ls_rv hs rv e1
    obtain ⟨g1, g2⟩ := greatest_spec e3
    refine ⟨a, ns, rfl, by rw [← rp_ints h2 e2]; exact h1, List.length_pos_of_mem g1, fun k k1 k2 => ?_⟩
    have : k = m := Int.le_antisymm (g2 k k1) (k2 m g1)
    rw [this]
    exact h.at hs _ rfl) ha
theorem sd_min (hb : ("min" : Str) ∈ p.B) (hg : p.sc.names.lookup ("min" : Str) = some .globalImplicit) (hst : notStar e = true) (ha : SdR p e cr) : SdE p (.Call (.Name "min" q) [e] [] pos) (.agg .min cr) :=
  sd_agg (r := rMin) (fun X C g => cr_min g.calm) hb hg (by decide +kernel) (by decide) (by decide) hst (fun K μ H S x v Q hs rv h => by
    obtain ⟨ds, e1, h⟩ := Po.may (show Po K μ H (may (lsOf S x) fun ds => may (intsOf ds) fun ns => may (least ns) fun m => Res.ok (D.int m) S) _ from h)
    obtain ⟨ns, e2, h⟩ := h.may
    obtain ⟨m, e3, h⟩ := h.may
    obtain ⟨a, vs, rfl, h1, h2, _⟩ := ls_rv hs rv e1
    obtain ⟨g1, g2⟩ := least_spec e3
    refine ⟨a, ns, rfl, by rw [← rp_ints h2 e2]; exact h1, List.length_pos_of_mem g1, fun k k1 k2 => ?_⟩
    have : k = m := Int.le_antisymm (k2 m g1) (g2 k k1)
    rw [this]
    exact h.at hs _ rfl) ha
theorem sd_all (hb : ("all" : Str) ∈ p.B) (hg : p.sc.names.lookup ("all" : Str) = some .globalImplicit) (hst : notStar e = true) (ha : SdR p e cr) : SdE p (.Call (.Name "all" q) [e] [] pos) (.agg .all cr) :=
  sd_agg (r := rAll) (fun X C g => cr_all g.calm) hb hg (by decide +kernel) (by decide) (by decide) hst (fun K μ H S x v Q hs rv h => by
    obtain ⟨ds, e1, h⟩ := Po.may (show Po K μ H (may (lsOf S x) fun ds => may (boolsOf ds) fun bs => Res.ok (D.bl (bs.all id)) S) _ from h)
    obtain ⟨ns, e2, h⟩ := h.may
    obtain ⟨a, vs, rfl, h1, h2, _⟩ := ls_rv hs rv e1
    exact ⟨a, ns, rfl, by rw [← rp_bools h2 e2]; exact h1, h.at hs _ rfl⟩) ha
theorem sd_any (hb : ("any" : Str) ∈ p.B) (hg : p.sc.names.lookup ("any" : Str) = some .globalImplicit) (hst : notStar e = true) (ha : SdR p e cr) : SdE p (.Call (.Name "any" q) [e] [] pos) (.agg .any cr) :=
  sd_agg (r := rAny) (fun X C g => cr_any g.calm) hb hg (by decide +kernel) (by decide) (by decide) hst (fun K μ H S x v Q hs rv h => by
    obtain ⟨ds, e1, h⟩ := Po.may (show Po K μ H (may (lsOf S x) fun ds => may (boolsOf ds) fun bs => Res.ok (D.bl (bs.any id)) S) _ from h)
    obtain ⟨ns, e2, h⟩ := h.may
    obtain ⟨a, vs, rfl, h1, h2, _⟩ := ls_rv hs rv e1
    exact ⟨a, ns, rfl, by rw [← rp_bools h2 e2]; exact h1, h.at hs _ rfl⟩) ha
/-- tuple(r), list(r) -/
theorem sd_tuple (hb : ("tuple" : Str) ∈ p.B) (hg : p.sc.names.lookup ("tuple" : Str) = some .globalImplicit) (hst : notStar e = true) (ha : SdR p e cr) : SdE p (.Call (.Name "tuple" q) [e] [] pos) (.agg .tuple cr) := fun X C g =>
  (pe_callTy call_tupleN (gl_of g hg) (g.blt _ hb) (by decide +kernel) (pa_cons (ha X C g) pa_nil (star_cons hst [] _)) (by decide) (by decide) (star_cons hst [] _) rfl).pq fun σ H Q h => tCB_R (g := aggD .tuple) (fun μ H S x v hs rv h => by
    obtain ⟨ds, e1, h⟩ := Po.may (show Po X.K μ H (may (sqOf S x) fun ds => Res.ok (D.tup ds) S) _ from h)
    obtain ⟨a, vs, rfl, h1, h2, h3⟩ := sq_rv hs rv e1
    refine ⟨a, vs, rfl, ?_⟩
    rcases h1 with h1 | ⟨h1, e2⟩
    · exact .inl ⟨h1, fun l o hl c1 c2 => h μ _ (hs.fresh hl _) (hs.freshOk hl _) _ (rp_tup hs h3 h2 hl c1 c2)⟩
    · exact .inr ⟨h1.sq, h.at hs _ ⟨a, vs, rfl, h1, h2, h3⟩⟩) (by
    obtain ⟨μ, ρ, S, he, hs, h⟩ := h
    unfold evE at h
    exact ⟨μ, ρ, S, he, hs, h⟩)
/-- list(x): of a list, a tuple, a text -/
def rListS (K : Fg) (xs : List V) (H : Hp) (Q : V → Hp → Prop) : Prop := (∃ p ys, xs = [.ref p] ∧ (SqL K H p ys ∨ SqT K H p ys) ∧ ∀ l, H l = none → Q (.ref l) (upd H l (.lst ys))) ∨
  (∃ z : Str, xs = [.str z] ∧ z.length ≤ sizeLine ∧ ∀ l, H l = none → Q (.ref l) (upd H l (.lst (z.cps.toList.map fun c => V.str ⟨#[c]⟩))))
theorem call_list_ofS {X : Cx} (hc : X.calm = true) : CallR X (.type "list") (rListS X.K) := by
  intro pins s σ H xs us Q I r h
  rcases h with h | h
  · exact call_list_of pins s σ H xs us Q I r h
  · obtain ⟨z, rfl, hz, q⟩ := h
    obtain ⟨u, rfl, rx⟩ := vals1 r
    obtain ⟨t, rfl⟩ := rx
    refine PySem.call_list_str (I.ok.hd hc) z t (fun h' tk acc c' hk e hi => ?_) hz
    have zl : z.cps.toList.length = z.cps.size := Array.length_toList
    refine ⟨.ref s.heap.objs.size, upd H s.heap.objs.size (.lst (z.cps.toList.map fun c => V.str ⟨#[c]⟩)), I.laid hk (Nat.le_refl _) ⟨by rw [List.length_map, zl]; exact hz, acc.toList, c', ?_, by rw [Array.toArray_toList]; exact e⟩, rfl, q _ (I.hok.fresh (Nat.le_refl _))⟩
    refine vals_of_idx _ _ (by rw [List.length_map, zl, Array.length_toList]; exact hi.1) fun j u hj => ?_
    obtain ⟨c, t', hc, rfl⟩ := hi.2 j u (by rw [← Array.getElem?_toList]; exact hj)
    exact ⟨.str ⟨#[c]⟩, by simp [hc], ⟨_, rfl⟩⟩
theorem letters_rp {K : Fg} {μ : List Addr} {H : Hp} (l : List Nat) : RpA K μ H (l.map fun c => D.str ⟨#[c]⟩) (l.map fun c => V.str ⟨#[c]⟩) := by
  induction l with
  | nil => exact rfl
  | cons k l ih => exact .cons rfl ih
theorem sq_list (hb : ("list" : Str) ∈ p.B) (hg : p.sc.names.lookup ("list" : Str) = some .globalImplicit) (hst : notStar e = true) (ha : SdR p e cr) : SdQ p (.Call (.Name "list" q) [e] [] pos) (.list cr) := fun X C g =>
  (pe_callTy (call_list_ofS g.calm) (gl_of g hg) (g.blt _ hb) (by decide +kernel) (pa_cons (ha X C g) pa_nil (star_cons hst [] _)) (by decide) (by decide) (star_cons hst [] _) rfl).pq fun σ H Q ⟨μ, ρ, S, he, hs, h⟩ => by
    unfold evQ at h
    refine ⟨μ, ρ, S, he, hs, h.bind.imp fun x S1 μ1 H1 _ e1 s1 h1 v rv => ?_⟩
    obtain ⟨ds, eds, h1⟩ := h1.may
    by_cases ht : ∃ z, x = .val (.str z)
    · obtain ⟨z, rfl⟩ := ht
      have rv' : v = .str z := rv
      subst rv'
      have eds' : (if z.length ≤ sizeLine then some (lettersD z) else none) = some ds := eds
      by_cases hz : z.length ≤ sizeLine
      · rw [if_pos hz, Option.some.injEq] at eds'
        subst eds'
        refine .inr ⟨z, rfl, hz, fun l hl => ?_⟩
        have r0 : RpA X.K μ1 H1 (lettersD z) (z.cps.toList.map fun c => V.str ⟨#[c]⟩) := letters_rp _
        refine h1 μ1 _ (s1.fresh hl _) (s1.freshOk hl _) l _ (e1.alive _ hl) upd_same (fun m => ?_) (r0.mono (s1.fresh hl _)) (by unfold lettersD; rw [List.length_map, Array.length_toList]; exact hz)
        obtain ⟨w, ew, _⟩ := s1.mem m
        rw [hl] at ew; cases ew
      · rw [if_neg hz] at eds'
        cases eds'
    · have eds' : sqOf S1 x = some ds := by
        cases x with
        | own es => exact eds
        | val d => cases d <;> first | exact eds | exact absurd ⟨_, rfl⟩ ht
      obtain ⟨a, vs, rfl, h2, h3, h4⟩ := sq_rv s1 rv eds'
      refine .inl ⟨a, vs, rfl, sq_or h2, fun l hl => ?_⟩
      refine h1 μ1 _ (s1.fresh hl _) (s1.freshOk hl _) l _ (e1.alive _ hl) upd_same (fun m => ?_) (h3.mono (s1.fresh hl _)) h4
      obtain ⟨w, ew, _⟩ := s1.mem m
      rw [hl] at ew; cases ew
end
end
end PQ

/-! More built-ins, methods of lists, isinstance. -/
namespace PQ
open PySem PySem.Spec PyProof.Rows L2
section
variable {p : Pl} {a b c e : Expr} {ca cb cc : CE} {cr : CR} {pos q : Pos}
/-- T(e), T a built-in type; f(e), f(e, e') built-in functions -/
theorem sd_ty1 {f : F1} {x : Str} {T : String} {r : Fg → List V → Hp → VK → Prop} (hc : ∀ X C, Good X p C → CallR X (.type T) (r X.K)) (hb : x ∈ p.B) (hg : p.sc.names.lookup x = some .globalImplicit) (hv : bootBuiltins x = some (.type T)) (hn : x ≠ "__name__") (hdb : (x == ("__debug__" : Str)) = false) (hst : notStar e = true)
    (ho : ∀ (K : Fg) (μ : List Addr) (H : Hp) (S : Sto) (x : D) (v : V) (Q : VK), StOk K μ H S → Rp K μ H x v → Po K μ H (fn1D f x S) (fun d _ μ' H' => ∀ v, Rp K μ' H' d v → Q v H') → r K [v] H Q) (ha : SdE p e ca) :
    SdE p (.Call (.Name x q) [e] [] pos) (.fn1 f ca) := fun X C g =>
  (pe_callTy (hc X C g) (gl_of g hg) (g.blt x hb) hv (pa_cons (ha X C g) pa_nil (star_cons hst [] _)) hn hdb (star_cons hst [] _) rfl).pq fun σ H Q h => tCB_E (fun μ H S x v => ho X.K μ H S x v Q) (by
    obtain ⟨μ, ρ, S, he, hs, h⟩ := h
    unfold evE at h
    exact ⟨μ, ρ, S, he, hs, h⟩)
theorem sd_fun1 {f : F1} {x : Str} {T : String} {r : Fg → List V → Hp → VK → Prop} (hc : ∀ X C, Good X p C → CallR X (.builtin T) (r X.K)) (hb : x ∈ p.B) (hg : p.sc.names.lookup x = some .globalImplicit) (hv : bootBuiltins x = some (.builtin T)) (hn : x ≠ "__name__") (hdb : (x == ("__debug__" : Str)) = false) (hst : notStar e = true)
    (ho : ∀ (K : Fg) (μ : List Addr) (H : Hp) (S : Sto) (x : D) (v : V) (Q : VK), StOk K μ H S → Rp K μ H x v → Po K μ H (fn1D f x S) (fun d _ μ' H' => ∀ v, Rp K μ' H' d v → Q v H') → r K [v] H Q) (ha : SdE p e ca) :
    SdE p (.Call (.Name x q) [e] [] pos) (.fn1 f ca) := fun X C g =>
  (pe_callB (hc X C g) (gl_of g hg) (g.blt x hb) hv (pa_cons (ha X C g) pa_nil (star_cons hst [] _)) hn hdb (star_cons hst [] _) rfl).pq fun σ H Q h => tCB_E (fun μ H S x v => ho X.K μ H S x v Q) (by
    obtain ⟨μ, ρ, S, he, hs, h⟩ := h
    unfold evE at h
    exact ⟨μ, ρ, S, he, hs, h⟩)
theorem sd_fun2 {f : F2} {x : Str} {T : String} {r : Fg → List V → Hp → VK → Prop} (hc : ∀ X C, Good X p C → CallR X (.builtin T) (r X.K)) (hb : x ∈ p.B) (hg : p.sc.names.lookup x = some .globalImplicit) (hv : bootBuiltins x = some (.builtin T)) (hn : x ≠ "__name__") (hdb : (x == ("__debug__" : Str)) = false) (hst : notStar a = true) (hst2 : notStar b = true)
    (ho : ∀ (K : Fg) (μ : List Addr) (H : Hp) (S : Sto) (x y : D) (v u : V) (Q : VK), StOk K μ H S → Rp K μ H x v → Rp K μ H y u → Po K μ H (fn2D f x y S) (fun d _ μ' H' => ∀ v, Rp K μ' H' d v → Q v H') → r K [v, u] H Q) (ha : SdE p a ca) (hb' : SdE p b cb) :
    SdE p (.Call (.Name x q) [a, b] [] pos) (.fn2 f ca cb) := fun X C g =>
  (pe_callB (hc X C g) (gl_of g hg) (g.blt x hb) hv (pa_cons (ha X C g) (pa_cons (hb' X C g) pa_nil (star_cons hst2 [] _)) (star_cons hst [b] _)) hn hdb (star_cons hst [b] _) (star_any _ _ (by rw [List.all_cons, hst2]; rfl))).pq fun σ H Q h => tCB_EE (fun μ H S x y v u => ho X.K μ H S x y v u Q) (by
    obtain ⟨μ, ρ, S, he, hs, h⟩ := h
    unfold evE at h
    exact ⟨μ, ρ, S, he, hs, h⟩)
theorem sd_intT (hb : ("int" : Str) ∈ p.B) (hg : p.sc.names.lookup ("int" : Str) = some .globalImplicit) (hst : notStar e = true) (ha : SdE p e ca) : SdE p (.Call (.Name "int" q) [e] [] pos) (.fn1 .int ca) :=
  sd_ty1 (r := fun _ xs H Q => (∃ i, xs = [.int i] ∧ Q (.int i) H) ∨ ∃ k, xs = [.bl k] ∧ Q (.int (if k then 1 else 0)) H) (fun X C g => call_int1) hb hg (by decide +kernel) (by decide) (by decide) hst (fun K μ H S x v Q hs rv h => by
    cases x with
    | int i => cases rv; exact .inl ⟨i, rfl, Po.at (show Po K μ H (Res.ok (D.int i) S) _ from h) hs _ rfl⟩
    | bl k => cases rv; exact .inr ⟨k, rfl, Po.at (show Po K μ H (Res.ok (D.int (if k then 1 else 0)) S) _ from h) hs _ rfl⟩
    | _ => exact (show False from h).elim) ha
theorem sd_strT (hb : ("str" : Str) ∈ p.B) (hg : p.sc.names.lookup ("str" : Str) = some .globalImplicit) (hst : notStar e = true) (ha : SdE p e ca) : SdE p (.Call (.Name "str" q) [e] [] pos) (.fn1 .str ca) :=
  sd_ty1 (r := fun _ xs H Q => ∃ i, xs = [.int i] ∧ i.natAbs.log2 < 1920 ∧ Q (.str (toString i)) H) (fun X C g => call_str_int) hb hg (by decide +kernel) (by decide) (by decide) hst (fun K μ H S x v Q hs rv h => by
    cases x with
    | int i =>
      cases rv
      obtain ⟨z, h⟩ := Po.ite (show Po K μ H (if i.natAbs.log2 < 1920 then Res.ok (D.str (toString i)) S else Res.bad) _ from h)
      exact ⟨i, rfl, z, Po.at h hs _ rfl⟩
    | _ => exact (show False from h).elim) ha
theorem sd_abs (hb : ("abs" : Str) ∈ p.B) (hg : p.sc.names.lookup ("abs" : Str) = some .globalImplicit) (hst : notStar e = true) (ha : SdE p e ca) : SdE p (.Call (.Name "abs" q) [e] [] pos) (.fn1 .abs ca) :=
  sd_fun1 (r := fun _ xs H Q => ∃ i, xs = [.int i] ∧ Q (.int (if i < 0 then -i else i)) H) (fun X C g => call_abs) hb hg (by decide +kernel) (by decide) (by decide) hst (fun K μ H S x v Q hs rv h => by
    cases x with
    | int i => cases rv; exact ⟨i, rfl, Po.at (show Po K μ H (Res.ok (D.int (if i < 0 then -i else i)) S) _ from h) hs _ rfl⟩
    | _ => exact (show False from h).elim) ha
theorem sd_min2 (hb : ("min" : Str) ∈ p.B) (hg : p.sc.names.lookup ("min" : Str) = some .globalImplicit) (hst : notStar a = true) (hst2 : notStar b = true) (ha : SdE p a ca) (hb' : SdE p b cb) : SdE p (.Call (.Name "min" q) [a, b] [] pos) (.fn2 .min ca cb) :=
  sd_fun2 (r := fun _ xs H Q => ∃ i j, xs = [.int i, .int j] ∧ Q (.int (if j < i then j else i)) H) (fun X C g => call_min2 g.calm) hb hg (by decide +kernel) (by decide) (by decide) hst hst2 (fun K μ H S x y v u Q hs rv ru h => by
    cases x <;> cases y <;> first | exact (show False from h).elim | (cases rv; cases ru; exact ⟨_, _, rfl, Po.at h hs _ rfl⟩)) ha hb'
theorem sd_max2 (hb : ("max" : Str) ∈ p.B) (hg : p.sc.names.lookup ("max" : Str) = some .globalImplicit) (hst : notStar a = true) (hst2 : notStar b = true) (ha : SdE p a ca) (hb' : SdE p b cb) : SdE p (.Call (.Name "max" q) [a, b] [] pos) (.fn2 .max ca cb) :=
  sd_fun2 (r := fun _ xs H Q => ∃ i j, xs = [.int i, .int j] ∧ Q (.int (if j > i then j else i)) H) (fun X C g => call_max2 g.calm) hb hg (by decide +kernel) (by decide) (by decide) hst hst2 (fun K μ H S x y v u Q hs rv ru h => by
    cases x <;> cases y <;> first | exact (show False from h).elim | (cases rv; cases ru; exact ⟨_, _, rfl, Po.at h hs _ rfl⟩)) ha hb'

theorem sd_gcd {x : Str} (hm : (x, Gv.fn "math.gcd") ∈ p.G) (hg : p.sc.names.lookup x = some .globalImplicit) (hdb : (x == ("__debug__" : Str)) = false) (hst : notStar a = true) (hst2 : notStar b = true) (ha : SdE p a ca) (hb' : SdE p b cb) : SdE p (.Call (.Name x q) [a, b] [] pos) (.fn2 .gcd ca cb) := fun X C g =>
  (pe_callBfun cr_gcd (gl_of g hg) (g.glb x _ hm) (pa_cons (ha X C g) (pa_cons (hb' X C g) pa_nil (star_cons hst2 [] _)) (star_cons hst [b] _)) hdb (star_cons hst [b] _) (star_any _ _ (by rw [List.all_cons, hst2]; rfl))).pq fun σ H Q h => tCB_EE (g := fn2D .gcd) (fun μ H S x y v u hs rv ru h => by
    cases x <;> cases y <;> first | exact (show False from h).elim | (cases rv; cases ru; exact ⟨_, _, rfl, Po.at h hs _ rfl⟩)) (by
    obtain ⟨μ, ρ, S, he, hs, h⟩ := h
    unfold evE at h
    exact ⟨μ, ρ, S, he, hs, h⟩)

/-! ### isinstance -/
def tyN : Ty → String
  | .int => "int" | .bool => "bool" | .str => "str" | .tuple => "tuple"
theorem sqt_ty {K : Fg} {H : Hp} {a : Addr} {xs : List V} (h : SqT K H a xs) : TyX K H (.ref a) (.type "tuple") := by
  rcases h with (h | ⟨o, h⟩) | ⟨o, its, n, hk, hc, _⟩
  · exact .base (.tup h)
  · exact .fTuple h
  · exact .kTuple hk hc
theorem fix_ty {K : Fg} {H : Hp} {a : Addr} {xs : List V} (h : Fix K H a xs) : TyX K H (.ref a) (.type "list") := by
  rcases h with ⟨o, h⟩ | ⟨o, its, n, hk, hc, _⟩
  · exact .base (.frz h)
  · exact .kList hk hc
theorem ty_rp {K : Fg} {μ : List Addr} {H : Hp} {S : Sto} {x : D} {v : V} {k : Bool} {t : Ty} (hs : StOk K μ H S) (r : Rp K μ H x v) (h : tyB t S x = some k) : ∃ n, TyX K H v (.type n) ∧ kitB n (tyN t) = some k := by
  cases x with
  | non => cases r; cases h; exact ⟨"NoneType", .base .non, by cases t <;> decide +kernel⟩
  | bl b => cases r; cases h; exact ⟨"bool", .base (.bl b), by cases t <;> decide +kernel⟩
  | int i => cases r; cases h; exact ⟨"int", .base (.int i), by cases t <;> decide +kernel⟩
  | str z => cases r; cases h; exact ⟨"str", .base (.str z), by cases t <;> decide +kernel⟩
  | tup ds =>
    obtain ⟨a, vs, rfl, h1, _⟩ := r
    cases h
    exact ⟨"tuple", sqt_ty h1.sq, by cases t <;> decide +kernel⟩
  | fix ds =>
    obtain ⟨a, vs, rfl, h1, _⟩ := r
    cases h
    exact ⟨"list", fix_ty h1, by cases t <;> decide +kernel⟩
  | ref i =>
    have h : (match S[i]? with
      | some (Ob.lst _) => some false
      | _ => none) = some k := h
    cases ei : S[i]? with
    | none => rw [ei] at h; cases h
    | some o =>
      rw [ei] at h
      cases o with
      | dic ks => first | (cases h; done) | exact (show False from h).elim
      | lst ds =>
        obtain ⟨a, vs, rfl, _, h1, _⟩ := rp_ref r hs ei
        cases h
        exact ⟨"list", .base (.lst h1), by cases t <;> decide +kernel⟩
theorem sd_isi {t : Ty} {x : Str} {q2 : Pos} (hb : ("isinstance" : Str) ∈ p.B) (hg : p.sc.names.lookup ("isinstance" : Str) = some .globalImplicit) (hb2 : x ∈ p.B) (hg2 : p.sc.names.lookup x = some .globalImplicit) (hv : bootBuiltins x = some (.type (tyN t))) (hn : x ≠ "__name__") (hdb : (x == ("__debug__" : Str)) = false) (hst : notStar a = true) (ha : SdE p a ca) :
    SdE p (.Call (.Name "isinstance" q) [a, .Name x q2] [] pos) (.isi ca t) := fun X C g =>
  (pe_callB call_isi (gl_of g hg) (g.blt _ hb) (by decide +kernel) (pa_cons (ha X C g) (pa_cons (pe_bltn (v := .ty (tyN t)) (gl_of g hg2) (g.blt _ hb2) hv rfl hn hdb) pa_nil rfl) (star_cons hst _ _)) (by decide) (by decide) (star_cons hst _ _) rfl).pq fun σ H Q ⟨μ, ρ, S, he, hs, h⟩ => by
    unfold evE at h
    refine ⟨μ, ρ, S, he, hs, h.bind.imp fun y S1 μ1 H1 _ e1 s1 h1 v rv => ?_⟩
    obtain ⟨k, ek, h1⟩ := h1.may
    obtain ⟨n, ty, hk⟩ := ty_rp s1 rv ek
    exact ⟨v, .ty (tyN t), .type n, .type (tyN t), k, rfl, .ty _, ty, kit_ty hk, h1.at s1 _ rfl⟩

/-! ### methods of lists -/
section
variable {K : Fg} {μ : List Addr} {H : Hp} {S : Sto} {x : D} {v : V}
/-- a value that is a list of the store -/
theorem Po.withL {α : Type} {f : Nat → List D → Res α} {P : α → Sto → List Addr → Hp → Prop} (hs : StOk K μ H S) (r : Rp K μ H x v) (h : Po K μ H (withL S x f) P) : ∃ i ds a vs, x = .ref i ∧ v = .ref a ∧ S[i]? = some (.lst ds) ∧ μ[i]? = some a ∧ H a = some (.lst vs) ∧ RpA K μ H ds vs ∧ ds.length ≤ sizeLine ∧ Po K μ H (f i ds) P := by
  cases x with
  | ref i =>
    have h : Po K μ H (match S[i]? with
      | some (Ob.lst ds) => f i ds
      | _ => Res.bad) P := h
    cases ei : S[i]? with
    | none => rw [ei] at h; exact h.elim
    | some o =>
      rw [ei] at h
      cases o with
      | dic ks => first | (cases h; done) | exact (show False from h).elim
      | lst ds =>
        obtain ⟨a, vs, e1, e2, h1, h2, h3⟩ := rp_ref r hs ei
        exact ⟨i, ds, a, vs, rfl, e1, ei, e2, h1, h2, h3, h⟩
  | _ => exact (show False from h).elim
theorem ty_lst {a : Addr} {vs : List V} (h : H a = some (.lst vs)) : tyV K "list" (.ref a) H := .inl ⟨rfl, _, .of h⟩
end
theorem few1 (cpos : Pos) (env : Env) (hst : notStar e = true) : ((backTo cpos (starEach [e] env)).all (fun x => !x.1) && (backToKw cpos (keywordEach [] env)).all (fun x => x.1.isSome)
      && decide ([e].length + ([] : List Keyword).length + (if ([] : List Keyword).isEmpty then 0 else 1) < 30)) = true := by
  rw [star_cons hst]
  rfl
theorem few2 (cpos : Pos) (env : Env) (hst : notStar a = true) (hst2 : notStar b = true) : ((backTo cpos (starEach [a, b] env)).all (fun x => !x.1) && (backToKw cpos (keywordEach [] env)).all (fun x => x.1.isSome)
      && decide ([a, b].length + ([] : List Keyword).length + (if ([] : List Keyword).isEmpty then 0 else 1) < 30)) = true := by
  rw [star_cons hst, star_cons hst2]
  rfl
/-- a method with one argument, a method without -/
theorem sd_bm1 {nm : Str} {id : String} {r : V → List V → Hp → VK → Prop} {ap : Pos} {f : D → D → Sto → Res D} {cx : CE} (slot : Slot "list" nm id) (hty : typeOf (.builtin id) = pure (.type "method_descriptor")) (hm : ∀ X : Cx, MtR X id r)
    (ho : ∀ (K : Fg) (μ : List Addr) (H : Hp) (S : Sto) (x y : D) (v u : V) (Q : VK), StOk K μ H S → Rp K μ H x v → Rp K μ H y u → Po K μ H (f x y S) (fun d _ μ' H' => ∀ v, Rp K μ' H' d v → Q v H') → r v [u] H Q)
    (hev : ∀ C ρ S, evE C cx ρ S = (evE C ca ρ S).bind fun o S1 => withL S1 o fun _ _ => (evE C cb ρ S1).bind fun v S2 => f o v S2)
    (hc : notCall a = true) (hl : (ap.endLine == pos.line) = true) (hst : notStar e = true) (ha : SdE p a ca) (hb : SdE p e cb) : SdE p (.Call (.Attribute a nm ap) [e] [] pos) cx := fun X C g =>
  (pe_bm PySem.F.plainAttrs_list slot hty (hm X) (ha X C g) (pa_cons (hb X C g) pa_nil (star_cons hst [] _)) (plain_base hc _ _ _) (few1 _ _ hst) hl (star_cons hst [] _) rfl).pq fun σ H Q ⟨μ, ρ, S, he, hs, h⟩ => by
    rw [hev] at h
    refine ⟨μ, ρ, S, he, hs, h.bind.imp fun x S1 μ1 H1 _ e1 s1 h1 v rv => ?_⟩
    obtain ⟨i, ds, a0, vs, rfl, rfl, ei, ea, k1, k2, k3, h1⟩ := h1.withL s1 rv
    refine ⟨ty_lst k1, μ1, ρ, S1, he.mono e1, s1, h1.bind.imp fun y S2 μ2 H2 _ e2 s2 h2 w rw_ => ?_⟩
    exact ho X.K μ2 H2 S2 (.ref i) y _ w Q s2 (rv.mono e2) rw_ h2
theorem sd_app {ap : Pos} (hc : notCall a = true) (hl : (ap.endLine == pos.line) = true) (hst : notStar e = true) (ha : SdE p a ca) (hb : SdE p e cb) : SdE p (.Call (.Attribute a "append" ap) [e] [] pos) (.app ca cb) :=
  sd_bm1 (f := appD) PySem.F.slot_list_append PySem.F.type_list_append (fun X => mt_append) (fun K μ H S x y v u Q hs rx ry h => by
    obtain ⟨i, ds, a0, vs, rfl, rfl, ei, ea, k1, k2, k3, h⟩ := Po.withL hs rx h
    obtain ⟨hz, h⟩ := h.ite
    obtain ⟨x1, x2⟩ := hs.put ea (k2.append (.cons ry .nil)) (by rw [List.length_append]; exact hz)
    exact ⟨a0, vs, u, rfl, rfl, k1, by rw [← k2.length]; exact hz, h _ _ x1 x2 _ rfl⟩) (fun C ρ S => by rw [evE]) hc hl hst ha hb
/-- l.insert(i, x) -/
theorem sd_ins {ap : Pos} {e2 : Expr} {cc : CE} (hc : notCall a = true) (hl : (ap.endLine == pos.line) = true) (hst : notStar e = true) (hst2 : notStar e2 = true) (ha : SdE p a ca) (hb : SdE p e cb) (hb2 : SdE p e2 cc) :
    SdE p (.Call (.Attribute a "insert" ap) [e, e2] [] pos) (.ins ca cb cc) := fun X C g =>
  (pe_bm (name := "insert") PySem.F.plainAttrs_list PySem.F.slot_list_insert PySem.F.type_list_insert mt_insert (ha X C g) (pa_cons (hb X C g) (pa_cons (hb2 X C g) pa_nil (star_cons hst2 [] _)) (star_cons hst [e2] _)) (plain_base hc _ _ _) (few2 _ _ hst hst2) hl (star_cons hst [e2] _) (star_any _ _ (by rw [List.all_cons, hst2]; rfl))).pq fun σ H Q ⟨μ, ρ, S, he, hs, h⟩ => by
    unfold evE at h
    refine ⟨μ, ρ, S, he, hs, h.bind.imp fun x S1 μ1 H1 _ e1 s1 h1 v rv => ?_⟩
    obtain ⟨i, ds, a0, vs, rfl, rfl, ei, ea, k1, k2, k3, h1⟩ := h1.withL s1 rv
    refine ⟨ty_lst k1, μ1, ρ, S1, he.mono e1, s1, h1.bind.imp fun y S2 μ2 H2 he2 e2 s2 h2 w rw_ => ?_⟩
    refine ⟨μ2, ρ, S2, (he.mono e1).mono e2, s2, h2.bind.imp fun z S3 μ3 H3 _ e3 s3 h3 u ru => ?_⟩
    have h3 : Po X.K μ3 H3 (insD (.ref i) y z S3) _ := h3
    obtain ⟨i', es, a', us, e4, e5, ej, eb, l1, l2, l3, h3⟩ := Po.withL s3 ((rv.mono e2).mono e3) h3
    cases e4
    cases e5
    cases y with
    | int j =>
      obtain ⟨⟨z1, z2, z3⟩, h3⟩ := Po.ite (show Po X.K μ3 H3 (if 0 ≤ j ∧ j < 2 ^ 63 ∧ es.length < sizeLine then Res.ok D.non (S3.set i (Ob.lst (es.take j.toNat ++ [z] ++ es.drop j.toNat))) else Res.bad) _ from h3)
      have hz : (es.take j.toNat ++ [z] ++ es.drop j.toNat).length ≤ sizeLine := by
        rw [List.length_append, List.length_append, List.length_take, List.length_drop, List.length_singleton]
        omega
      obtain ⟨x1, x2⟩ := s3.put eb (((l2.take j.toNat).append (.cons ru .nil)).append (l2.drop j.toNat)) hz
      exact ⟨a0, us, j, u, rfl, by rw [show w = V.int j from (rw_.mono e3)], l1, by rw [← l2.length]; exact z3, z1, z2, h3 _ _ x1 x2 _ rfl⟩
    | _ => exact (show False from h3).elim
theorem sd_popAt {ap : Pos} (hc : notCall a = true) (hl : (ap.endLine == pos.line) = true) (hst : notStar e = true) (ha : SdE p a ca) (hb : SdE p e cb) : SdE p (.Call (.Attribute a "pop" ap) [e] [] pos) (.popAt ca cb) :=
  sd_bm1 (f := popAtD) PySem.F.slot_list_pop PySem.F.type_list_pop (fun X => mt_popAt) (fun K μ H S x y v u Q hs rx ry h => by
    obtain ⟨i, ds, a0, vs, rfl, rfl, ei, ea, k1, k2, k3, h⟩ := Po.withL hs rx h
    cases y with
    | int j =>
      obtain ⟨⟨hz1, hz2⟩, h⟩ := Po.ite (show Po K μ H (if -(2 ^ 63) ≤ j ∧ j < 2 ^ 63 then may (seqIndex? j ds.length) fun k => may ds[k]? fun d => Res.ok d (S.set i (Ob.lst (ds.eraseIdx k))) else Res.bad) _ from h)
      obtain ⟨k, ek, h⟩ := h.may
      obtain ⟨d, ed, h⟩ := h.may
      obtain ⟨w, ew, rw_⟩ := k2.get ed
      obtain ⟨x1, x2⟩ := hs.put ea (k2.eraseIdx k) (Nat.le_trans (len_erase _ _) k3)
      exact ⟨a0, vs, j, k, w, rfl, by rw [show u = V.int j from ry], k1, hz1, hz2, by rw [← k2.length]; exact ek, ew, h _ _ x1 x2 _ (rw_.mono x1)⟩
    | _ => exact (show False from h).elim) (fun C ρ S => by rw [evE]) hc hl hst ha hb
theorem RpA.dropLast {K : Fg} {μ : List Addr} {H : Hp} {ds : List D} {vs : List V} (r : RpA K μ H ds vs) : RpA K μ H ds.dropLast vs.dropLast := by
  rw [List.dropLast_eq_take, List.dropLast_eq_take, r.length]
  exact r.take _
theorem sd_pop {ap : Pos} (hc : notCall a = true) (hl : (ap.endLine == pos.line) = true) (ha : SdE p a ca) : SdE p (.Call (.Attribute a "pop" ap) [] [] pos) (.pop ca) := fun X C g =>
  (pe_bm0 (name := "pop") PySem.F.plainAttrs_list PySem.F.slot_list_pop PySem.F.type_list_pop mt_pop (ha X C g) (plain_base hc _ _ _) hl).pq fun σ H Q ⟨μ, ρ, S, he, hs, h⟩ => by
    unfold evE at h
    refine ⟨μ, ρ, S, he, hs, h.bind.imp fun x S1 μ1 H1 _ e1 s1 h1 v rv => ?_⟩
    obtain ⟨i, ds, a0, vs, rfl, rfl, ei, ea, k1, k2, k3, h1⟩ := Po.withL s1 rv h1
    obtain ⟨d, ed, h1⟩ := h1.may
    obtain ⟨w, ew, rw_⟩ := k2.get ed
    obtain ⟨x1, x2⟩ := s1.put ea k2.dropLast (by rw [List.length_dropLast]; omega)
    exact ⟨ty_lst k1, a0, vs, w, rfl, rfl, k1, by rw [← k2.length]; exact ew, h1 _ _ x1 x2 _ (rw_.mono x1)⟩
theorem sd_ext {ap : Pos} (hc : notCall a = true) (hl : (ap.endLine == pos.line) = true) (hst : notStar e = true) (ha : SdE p a ca) (hb : SdR p e cr) : SdE p (.Call (.Attribute a "extend" ap) [e] [] pos) (.ext ca cr) := fun X C g =>
  (pe_bm (name := "extend") PySem.F.plainAttrs_list PySem.F.slot_list_extend PySem.F.type_list_extend mt_extend (ha X C g) (pa_cons (hb X C g) pa_nil (star_cons hst [] _)) (plain_base hc _ _ _) (few1 _ _ hst) hl (star_cons hst [] _) rfl).pq fun σ H Q ⟨μ, ρ, S, he, hs, h⟩ => by
    unfold evE at h
    refine ⟨μ, ρ, S, he, hs, h.bind.imp fun x S1 μ1 H1 _ e1 s1 h1 v rv => ?_⟩
    obtain ⟨i, ds, a0, vs, rfl, rfl, ei, ea, k1, k2, k3, h1⟩ := h1.withL s1 rv
    refine ⟨ty_lst k1, μ1, ρ, S1, he.mono e1, s1, h1.bind.imp fun y S2 μ2 H2 _ e2 s2 h2 w rw_ => ?_⟩
    obtain ⟨i', es, a', us, e3, e4, ej, eb, l1, l2, l3, h2⟩ := Po.withL s2 (rv.mono e2) h2
    cases e3
    cases e4
    obtain ⟨fs, ef, h2⟩ := h2.may
    obtain ⟨hz, h2⟩ := h2.ite
    obtain ⟨b, ws, rfl, m1, m2, m3⟩ := tr_rv s2 rw_ ef
    obtain ⟨x1, x2⟩ := s2.put eb (l2.append m2) (by rw [List.length_append]; exact hz)
    exact ⟨a0, b, us, ws, rfl, rfl, l1, m1, by rw [← l2.length, ← m2.length]; exact hz, h2 _ _ x1 x2 _ rfl⟩

theorem rp_strs {K : Fg} {μ : List Addr} {H : Hp} : ∀ {ds : List D} {vs : List V} {ys : List Str}, RpA K μ H ds vs → strsOf ds = some ys → vs = ys.map V.str
  | [], _, _, h, e => by
    cases e
    exact h
  | .str x :: ds, _, ys, ⟨v, r, e1, h1, h2⟩, e => by
    have e : (strsOf ds).map (x :: ·) = some ys := e
    cases e2 : strsOf ds with
    | none => rw [e2] at e; cases e
    | some zs =>
      rw [e2] at e
      cases e
      rw [e1, rp_strs h2 e2]
      cases h1
      rfl
  | .non :: _, _, _, _, e => nomatch e
  | .bl _ :: _, _, _, _, e => nomatch e
  | .int _ :: _, _, _, _, e => nomatch e
  | .tup _ :: _, _, _, _, e => nomatch e
  | .fix _ :: _, _, _, _, e => nomatch e
  | .ref _ :: _, _, _, _, e => nomatch e
/-- 'text'.join(r) -/
theorem sd_join {ap cp : Pos} {s : Str} {j : _} (hl : (ap.endLine == pos.line) = true) (hst : notStar e = true) (hb : SdR p e cr) : SdE p (.Call (.Attribute (.Constant (.str s) j cp) "join" ap) [e] [] pos) (.join s cr) := fun X C g =>
  (pe_join (o := .Constant (.str s) j cp) pe_str (hb X C g) (star_cons hst [] _) rfl hl).pq fun σ H Q ⟨μ, ρ, S, he, hs, h⟩ => by
    unfold evE at h
    refine ⟨⟨s, rfl⟩, μ, ρ, S, he, hs, h.bind.imp fun w S1 μ1 H1 _ e1 s1 h1 v rv => ?_⟩
    obtain ⟨ds, e2, h1⟩ := h1.may
    obtain ⟨ys, e3, h1⟩ := h1.may
    obtain ⟨z, h1⟩ := h1.ask
    obtain ⟨a, vs, rfl, q1, q2, _⟩ := sq_rv s1 rv e2
    have ev := rp_strs q2 e3
    subst ev
    exact ⟨s, a, ys, rfl, rfl, q1.imp id (fun z => z.1.sq), z, h1.at s1 _ rfl⟩

theorem ixL_of {K : Fg} {μ : List Addr} {H : Hp} {S : Sto} {x y : D} {a : Addr} {w : V} {ps : List PyData} {n : Nat} {p : PyData} (hs : StOk K μ H S) (ry : Rp K μ H y w) (ep : toP S y = some p) (h : (if (shp p && shp (.list ps)) = true then ps.findIdx? (fun q => PyData.eqv q p) else none) = some n) :
    Dp K H w p ∧ shp (.list ps) = true ∧ shp p = true ∧ ∃ z, ps[n]? = some z ∧ PyData.eqv z p = true ∧ ∀ (m : Nat) (z' : PyData), m < n → ps[m]? = some z' → PyData.eqv z' p = false := by
  split at h
  · rename_i c
    rw [Bool.and_eq_true] at c
    obtain ⟨h1, h2, h3⟩ := List.findIdx?_eq_some_iff_getElem.mp h
    refine ⟨toP_dp hs ry ep, c.2, c.1, ps[n], List.getElem?_eq_getElem h1, h2, fun m z' hm e => ?_⟩
    have h4 := h3 m hm
    rw [(List.getElem?_eq_some_iff.mp e).2] at h4
    simpa using h4
  · cases h
/-- x.index(y) -/
theorem sd_tix {ap : Pos} (hc : notCall a = true) (hl : (ap.endLine == pos.line) = true) (hst : notStar e = true) (ha : SdE p a ca) (hb : SdE p e cb) : SdE p (.Call (.Attribute a "index" ap) [e] [] pos) (.tix ca cb) := fun X C g =>
  (pe_tl (name := "index") PySem.F.slot_tuple_index PySem.F.type_tuple_index (mt_indexTI (by have := g.un; omega)) PySem.F.slot_list_index PySem.F.type_list_index (mt_indexP (by have := g.un; omega)) (ha X C g) (pa_cons (hb X C g) pa_nil (star_cons hst [] _)) (plain_base hc _ _ _) (few1 _ _ hst) hl (star_cons hst [] _) rfl).pq fun σ H Q ⟨μ, ρ, S, he, hs, h⟩ => by
    unfold evE at h
    refine ⟨μ, ρ, S, he, hs, h.bind.imp fun x S1 μ1 H1 _ e1 s1 h1 v rv => ?_⟩
    cases x with
    | tup ds =>
      obtain ⟨a0, vs, rfl, k1, k2, k3⟩ := rv
      have h1 : Po X.K μ1 H1 ((evE C cb ρ S1).bind fun y S2 => tixD ds y S2) _ := h1
      refine .inl ⟨⟨a0, vs, rfl, k1⟩, μ1, ρ, S1, he.mono e1, s1, h1.bind.imp fun y S2 μ2 H2 _ e2 s2 h2 w rw_ => ?_⟩
      have gen : Po X.K μ2 H2 (may (ixD (.tup ds) y S2) fun j => Res.ok (D.int (j : Nat)) S2) (fun d x μ' H' => ∀ (v : V), Rp X.K μ' H' d v → Q v H') → rIdxI X.K (.ref a0) [w] H2 Q ∨ rIndexT X.K (.ref a0) [w] H2 Q := fun h2 => by
        obtain ⟨n, en, h2⟩ := h2.may
        have rx : Rp X.K μ2 H2 (.tup ds) (.ref a0) := ⟨a0, vs, rfl, e2.tup _ _ k1, k2.mono e2, k3⟩
        unfold ixD at en
        cases ex : toP S2 (.tup ds) with
        | none => rw [ex] at en; cases en
        | some q =>
          cases ey : toP S2 y with
          | none => rw [ex, ey] at en; cases q <;> cases en
          | some p =>
            have dx := toP_dp s2 rx ex
            cases q with
            | tuple ps =>
              rw [ex, ey] at en
              obtain ⟨d1, d2, d3, z, d4, d5, d6⟩ := ixL_of (x := .tup ds) (a := a0) s2 rw_ ey en
              exact .inr ⟨a0, w, p, ps, n, z, rfl, rfl, dx, d1, d2, d3, d4, d5, d6, h2.at s2 _ rfl⟩
            | list ps =>
              exfalso
              have : (toPsW (refP S2 8) ds).map PyData.tuple = some (.list ps) := ex
              cases e9 : toPsW (refP S2 8) ds with
              | none => rw [e9] at this; cases this
              | some _ => rw [e9] at this; cases this
            | _ => rw [ex, ey] at en; cases en
      cases y with
      | int z =>
        have h2 : Po X.K μ2 H2 (may (intsOf ds) fun ns => if z ∈ ns then Res.ok (D.int ((ns.idxOf z : Nat) : Int)) S2 else Res.bad) _ := h2
        obtain ⟨ns, en, h2⟩ := h2.may
        obtain ⟨hz, h2⟩ := h2.ite
        have ev := rp_ints k2 en
        subst ev
        refine .inl ⟨a0, ns, z, ns.idxOf z, rfl, by rw [show w = V.int z from rw_], (e2.tup _ _ k1).sq, ?_, fun m hm e => ?_, h2.at s2 _ rfl⟩
        · rw [List.getElem?_eq_getElem (List.idxOf_lt_length_iff.mpr hz)]
          simp
        · have hm' : m < ns.length := (List.getElem?_eq_some_iff.mp e).1
          have := List.not_of_lt_findIdx (p := (· == z)) (xs := ns) hm
          rw [(List.getElem?_eq_some_iff.mp e).2] at this
          simp at this
      | _ => exact gen h2
    | ref j =>
      have h1 : Po X.K μ1 H1 (withL S1 (.ref j) fun _ _ => (evE C cb ρ S1).bind fun y S2 => may (ixD (.ref j) y S2) fun n => Res.ok (D.int (n : Nat)) S2) _ := h1
      obtain ⟨i, ds, a0, vs, ej, rfl, ei, ea, k1, k2, k3, h1⟩ := h1.withL s1 rv
      cases ej
      refine .inr ⟨ty_lst k1, μ1, ρ, S1, he.mono e1, s1, h1.bind.imp fun y S2 μ2 H2 _ e2 s2 h2 w rw_ => ?_⟩
      obtain ⟨n, en, h2⟩ := h2.may
      have rx := rv.mono e2
      unfold ixD at en
      cases ex : toP S2 (.ref j) with
      | none => rw [ex] at en; cases en
      | some q =>
        cases ey : toP S2 y with
        | none => rw [ex, ey] at en; cases q <;> cases en
        | some p =>
          have dx := toP_dp s2 rx ex
          cases q with
          | list ps =>
            rw [ex, ey] at en
            obtain ⟨d1, d2, d3, z, d4, d5, d6⟩ := ixL_of (x := .ref j) (a := a0) s2 rw_ ey en
            exact ⟨a0, w, p, ps, n, z, rfl, rfl, dx, d1, d2, d3, d4, d5, d6, h2.at s2 _ rfl⟩
          | tuple ps =>
            exfalso
            have : refP S2 8 j = some (.tuple ps) := ex
            unfold refP at this
            split at this
            · rename_i q _
              cases e9 : toPsW (refP S2 7) q with
              | none => rw [e9] at this; cases this
              | some _ => rw [e9] at this; cases this
            · cases this
          | _ => rw [ex, ey] at en; cases en
    | _ => exact (show False from h1).elim

/-! ### in, not in -/
theorem flat_rp {K : Fg} {μ : List Addr} {H : Hp} {x y : D} {v u : V} (rx : Rp K μ H x v) (f : flatD x = true) : flatV v = true := by
  cases x <;> first | (cases f; done) | (cases rx; rfl)
theorem eqF_rp {K : Fg} {μ : List Addr} {H : Hp} {x y : D} {v u : V} (rx : Rp K μ H x v) (ry : Rp K μ H y u) (fx : flatD x = true) (fy : flatD y = true) : eqV u v = eqF y x := by
  cases x <;> cases y <;> first | (cases fx; done) | (cases fy; done) | (cases rx; cases ry; rfl)
theorem flats_rp {K : Fg} {μ : List Addr} {H : Hp} : ∀ {ds : List D} {vs : List V}, RpA K μ H ds vs → ds.all flatD = true → vs.all flatV = true
  | [], _, h, _ => by rw [show _ = ([] : List V) from h]; rfl
  | d :: ds, _, ⟨v, r, e, h1, h2⟩, h => by
    rw [List.all_cons, Bool.and_eq_true] at h
    rw [e, List.all_cons, flat_rp (y := d) (u := v) h1 h.1, flats_rp h2 h.2]
    rfl
theorem anyF_rp {K : Fg} {μ : List Addr} {H : Hp} {x : D} {v : V} (rx : Rp K μ H x v) (fx : flatD x = true) : ∀ {ds : List D} {vs : List V}, RpA K μ H ds vs → ds.all flatD = true → inV v vs = ds.any fun y => eqF y x
  | [], _, h, _ => by rw [show _ = ([] : List V) from h]; rfl
  | d :: ds, _, ⟨w, r, e, h1, h2⟩, h => by
    rw [List.all_cons, Bool.and_eq_true] at h
    rw [e]
    show (eqV w v || inV v r) = _
    rw [List.any_cons, eqF_rp rx h1 fx h.1, anyF_rp rx fx h2 h.2]
def rIn2 (K : Fg) (neg : Bool) : R2 := fun x y H Q => rIn K neg x y H Q ∨ ∃ d ds, Dp K H x d ∧ Dp K H y (.list ds) ∧ shp d = true ∧ shp (.list ds) = true ∧ Q (.bl (if neg then !ds.any (fun z => PyData.eqv z d) else ds.any fun z => PyData.eqv z d)) H
/-- in, of a dict -/
def rInK (neg : Bool) : R2 := fun x y H Q => ∃ a o, y = .ref a ∧ DGet H a x o ∧ Q (.bl (if neg then !o.isSome else o.isSome)) H
theorem op_inK {X : Cx} (hu : X.A.units + 1 < cLine) : OpR X (compareOp .In) (rInK false) := by
  intro pins s σ H x y v u Q I rx ry q
  obtain ⟨a, o, rfl, g, q⟩ := q
  cases ry
  exact d_in hu I g rx fun s' I' => ⟨.bl o.isSome, H, I', rfl, q⟩
theorem op_notInK {X : Cx} (hu : X.A.units + 1 < cLine) : OpR X (compareOp .NotIn) (rInK true) := by
  intro pins s σ H x y v u Q I rx ry q
  obtain ⟨a, o, rfl, g, q⟩ := q
  cases ry
  exact d_notIn hu I g rx fun s' I' => ⟨.bl (!o.isSome), H, I', rfl, q⟩
theorem key_rp {K : Fg} {μ : List Addr} {H : Hp} {x : D} {v : V} {k : Key} (r : Rp K μ H x v) (h : keyOf x = some k) : v = kV k := by
  cases x with
  | int i => cases h; exact r
  | str i => cases h; exact r
  | _ => cases h
def rIn3 (K : Fg) (neg : Bool) : R2 := fun x y H Q => rInK neg x y H Q ∨ rIn2 K neg x y H Q
theorem os_in {K : Fg} {μ : List Addr} {H : Hp} {S : Sto} {x : D} {r : RV} {v u : V} {Q : VK} {k : Bool} (neg : Bool) (hs : StOk K μ H S) (rx : Rp K μ H x v) (rr : RvR K μ H r u) (h : inD x r S = some k) (q : Q (.bl (if neg then !k else k)) H) : rIn3 K neg v u H Q := by
  unfold inD at h
  cases e1 : sqOf S r with
  | none =>
    rw [e1] at h
    have h : (match dicOf S r, keyOf x with
      | some ks, some k => some (gD ks k).isSome
      | _, _ => none) = some k := h
    cases e2 : dicOf S r with
    | none => rw [e2] at h; cases h
    | some ks =>
      cases e3 : keyOf x with
      | none => rw [e2, e3] at h; cases h
      | some j =>
        rw [e2, e3] at h
        cases h
        obtain ⟨a, vs, rfl, h1, h2, h3, h4⟩ := dic_rv hs rr e2
        refine .inl ⟨a, valV vs j, rfl, ?_, by rw [h2.isSome]; exact q⟩
        rw [key_rp rx e3]
        exact DGet.k h1
  | some ds =>
    refine .inr ?_
    rw [e1] at h
    have h : (if (flatD x && ds.all flatD) = true then some (ds.any fun y => eqF y x) else (match lsOf S r with
      | some ds => (match toP S x, toPs S ds with
        | some p, some ps => if (shp p && shp (.list ps)) = true then some (ps.any fun q => PyData.eqv q p) else none
        | _, _ => none)
      | none => none)) = some k := h
    split at h
    · rename_i hf
      rw [Bool.and_eq_true] at hf
      cases h
      obtain ⟨a, vs, rfl, h1, h2, _⟩ := sq_rv hs rr e1
      refine .inl ⟨a, vs, rfl, sq_or h1, flat_rp (y := x) (u := v) rx hf.1, flats_rp h2 hf.2, ?_⟩
      rw [anyF_rp rx hf.1 h2 hf.2]
      exact q
    · cases e2 : lsOf S r with
      | none => rw [e2] at h; cases h
      | some es =>
        rw [e2] at h
        obtain ⟨a, vs, rfl, h1, h2, _⟩ := ls_rv hs rr e2
        have h : (match toP S x, toPs S es with
          | some p, some ps => if (shp p && shp (.list ps)) = true then some (ps.any fun q => PyData.eqv q p) else none
          | _, _ => none) = some k := h
        cases e3 : toP S x with
        | none => rw [e3] at h; cases h
        | some p1 =>
          cases e4 : toPs S es with
          | none => rw [e3, e4] at h; cases h
          | some ps =>
            rw [e3, e4] at h
            have h : (if (shp p1 && shp (.list ps)) = true then some (ps.any fun q => PyData.eqv q p1) else none) = some k := h
            split at h
            · rename_i hf
              rw [Bool.and_eq_true] at hf
              cases h
              exact .inr ⟨p1, ps, toP_dp hs rx e3, .lst h1 (toPs_dp hs h2 e4), hf.1, hf.2, q⟩
            · cases h
theorem sc_in (hm : behindInMarks .In b = false) (ha : SdE p a ca) (hb : SdR p b cr) : SdC p (.Compare a [.In] [b] pos) (.inr ca cr) := fun X C g => by
  have hu := g.un
  have ho : OpR X (compareOp .In) (rIn3 X.K false) := (op_inK (by omega)).or (op_in_seq.or (op_inP (by omega)))
  refine ⟨_, pe_cmpR ho (ha X C g) (hb X C g) hm, pt_cmpR ho (ha X C g) (hb X C g) hm, fun σ H Q ⟨μ, ρ, S, he, hs, h⟩ => ?_⟩
  unfold evE at h
  refine ⟨μ, ρ, S, he, hs, h.bind.imp fun x S1 μ1 H1 _ e1 s1 h1 v rv => ?_⟩
  refine ⟨μ1, ρ, S1, he.mono e1, s1, h1.bind.imp fun y S2 μ2 H2 _ e2 s2 h2 u ru => ?_⟩
  obtain ⟨k, ek, h2⟩ := h2.may
  exact os_in false s2 (rv.mono e2) ru ek (h2.at s2 _ rfl)
theorem sc_notIn (hm : behindInMarks .NotIn b = false) (ha : SdE p a ca) (hb : SdR p b cr) : SdC p (.Compare a [.NotIn] [b] pos) (.notInr ca cr) := fun X C g => by
  have hu := g.un
  have ho : OpR X (compareOp .NotIn) (rIn3 X.K true) := (op_notInK (by omega)).or (op_notIn_seq.or (op_notInP (by omega)))
  refine ⟨_, pe_cmpR ho (ha X C g) (hb X C g) hm, pt_cmpR ho (ha X C g) (hb X C g) hm, fun σ H Q ⟨μ, ρ, S, he, hs, h⟩ => ?_⟩
  unfold evE at h
  refine ⟨μ, ρ, S, he, hs, h.bind.imp fun x S1 μ1 H1 _ e1 s1 h1 v rv => ?_⟩
  refine ⟨μ1, ρ, S1, he.mono e1, s1, h1.bind.imp fun y S2 μ2 H2 _ e2 s2 h2 u ru => ?_⟩
  obtain ⟨k, ek, h2⟩ := h2.may
  exact os_in true s2 (rv.mono e2) ru ek (h2.at s2 _ rfl)
theorem b_in : ∀ C ρ S d S', evE C (.inr ca cr) ρ S = .ok d S' → isB d = true := fun C ρ S d S' h => by
  unfold evE at h
  obtain ⟨x, S1, _, h⟩ := bind_ok h
  obtain ⟨y, S2, _, h⟩ := bind_ok h
  obtain ⟨k, _, h⟩ := may_ok h
  cases h; rfl
theorem b_notIn : ∀ C ρ S d S', evE C (.notInr ca cr) ρ S = .ok d S' → isB d = true := fun C ρ S d S' h => by
  unfold evE at h
  obtain ⟨x, S1, _, h⟩ := bind_ok h
  obtain ⟨y, S2, _, h⟩ := bind_ok h
  obtain ⟨k, _, h⟩ := may_ok h
  cases h; rfl

/-! ### dicts -/
/-- a value that is a dict of the store -/
theorem Po.withD {α : Type} {K : Fg} {μ : List Addr} {H : Hp} {S : Sto} {x : D} {v : V} {f : Nat → List (Key × D) → Res α} {P : α → Sto → List Addr → Hp → Prop} (hs : StOk K μ H S) (r : Rp K μ H x v) (h : Po K μ H (withD S x f) P) : ∃ i ks a vs, x = .ref i ∧ v = .ref a ∧ S[i]? = some (.dic ks) ∧ μ[i]? = some a ∧ H a = some (.dK vs) ∧ RpK K μ H ks vs ∧ ks.length ≤ sizeLine ∧ Nk ks ∧ Po K μ H (f i ks) P := by
  cases x with
  | ref i =>
    have h : Po K μ H (match S[i]? with
      | some (Ob.dic ks) => f i ks
      | _ => Res.bad) P := h
    cases ei : S[i]? with
    | none => rw [ei] at h; exact h.elim
    | some o =>
      rw [ei] at h
      cases o with
      | lst ds => exact h.elim
      | dic ks =>
        obtain ⟨a, vs, e1, e2, h1, h2, h3, h4⟩ := rp_refD r hs ei
        exact ⟨i, ks, a, vs, rfl, e1, ei, e2, h1, h2, h3, h4, h⟩
  | _ => exact (show False from h).elim
/-- {} -/
theorem sd_dnew : SdE p (.Dict [] [] pos) .dnew := fun X C g => pe_dnewK.pq fun σ H Q ⟨μ, ρ, S, he, hs, h⟩ => by
  unfold evE at h
  intro q hq
  refine h (μ ++ [q]) _ ((hs.fresh hq _).take hq) ((hs.freshOk hq _).takeO (fun m => ?_) ⟨[], upd_same, rfl, Nat.zero_le _, trivial⟩) _ ⟨q, rfl, ?_⟩
  · obtain ⟨w, e, _⟩ := hs.mem m
    rw [hq] at e; cases e
  · rw [← hs.len, List.getElem?_append_right (Nat.le_refl _), Nat.sub_self]
    rfl
/-- d.get(k, x) -/
theorem sd_dget {ap : Pos} (hc : notCall a = true) (hl : (ap.endLine == pos.line) = true) (hst : notStar b = true) (hst2 : notStar c = true) (ha : SdE p a ca) (hb : SdE p b cb) (hcc : SdE p c cc) : SdE p (.Call (.Attribute a "get" ap) [b, c] [] pos) (.dget ca cb cc) := fun X C g =>
  (pe_dget2 (by have := g.un; omega) (ha X C g) (hb X C g) (hcc X C g) ⟨plain_base hc _ _ _, by
    rw [star_cons hst, star_cons hst2]
    rfl, hl, by
    rw [star_cons hst, star_cons hst2]
    rfl⟩).pq fun σ H Q ⟨μ, ρ, S, he, hs, h⟩ => by
    unfold evE at h
    refine ⟨μ, ρ, S, he, hs, h.bind.imp fun x S1 μ1 H1 _ e1 s1 h1 v rv => ?_⟩
    obtain ⟨i, ks, a0, vs, rfl, rfl, ei, ea, k1, k2, k3, k4, h1⟩ := h1.withD s1 rv
    refine ⟨a0, rfl, .inl ⟨vs, .inl k1⟩, μ1, ρ, S1, he.mono e1, s1, h1.bind.imp fun y S2 μ2 H2 _ e2 s2 h2 w rw_ => ?_⟩
    refine ⟨μ2, ρ, S2, he.mono (e1.trans e2), s2, h2.bind.imp fun z S3 μ3 H3 _ e3 s3 h3 t rt => ?_⟩
    obtain ⟨i', ks', a', vs', e4, e5, ej, eb, l1, l2, l3, l4, h3⟩ := Po.withD s3 ((rv.mono e2).mono e3) h3
    cases e4
    cases e5
    obtain ⟨k, ek, h3⟩ := h3.may
    refine ⟨valV vs' k, ?_, ?_⟩
    · rw [key_rp (rw_.mono e3) ek]
      exact DGet.k l1
    · cases eg : gD ks' k with
      | none =>
        rw [l2.getN eg]
        rw [eg] at h3
        exact h3.at s3 _ rt
      | some d =>
        obtain ⟨w', ew, rd⟩ := l2.getS eg
        rw [ew]
        rw [eg] at h3
        exact h3.at s3 _ rd
end
end PQ

/-! New lists; what is walked; comprehensions. -/
namespace PQ
open PySem PySem.Spec PyProof.Rows L2
section
variable {p : Pl} {a b c e : Expr} {ca cb cc : CE} {cr cr2 : CR} {pos q : Pos}
/-- one's own new list at l -/
theorem own_new {K : Fg} {μ : List Addr} {H : Hp} {S : Sto} {ds : List D} {vs : List V} {l : Addr} (s1 : StOk K μ H S) (r : RpA K μ H ds vs) (hl : H l = none) : l ∉ μ ∧ RpA K μ (upd H l (.lst vs)) ds vs := by
  refine ⟨fun m => ?_, r.mono (s1.fresh hl _)⟩
  obtain ⟨w, ew, _⟩ := s1.mem m
  rw [hl] at ew; cases ew
theorem sq_cat (ha : SdR p a cr) (hb : SdR p b cr2) : SdQ p (.BinOp a .Add b pos) (.cat cr cr2) := fun X C g =>
  (pe_op op_cat (ha X C g) (hb X C g)).pq fun σ H Q ⟨μ, ρ, S, he, hs, h⟩ => by
    unfold evQ at h
    refine ⟨μ, ρ, S, he, hs, h.bind.imp fun x S1 μ1 H1 _ e1 s1 h1 v rv => ?_⟩
    refine ⟨μ1, ρ, S1, he.mono e1, s1, h1.bind.imp fun y S2 μ2 H2 _ e2 s2 h2 u ru => ?_⟩
    obtain ⟨ds, ed, h2⟩ := h2.may
    obtain ⟨es, ee, h2⟩ := h2.may
    obtain ⟨z, h2⟩ := h2.ask
    obtain ⟨a, vs, rfl, k1, k2, k3⟩ := tr_rv s2 (rv.mono e2) ed
    obtain ⟨b, us, rfl, l1, l2, l3⟩ := tr_rv s2 ru ee
    refine ⟨a, b, vs, us, rfl, rfl, k1, l1, by rw [← k2.length, ← l2.length]; exact z, fun l hl => ?_⟩
    obtain ⟨n1, n2⟩ := own_new s2 (k2.append l2) hl
    exact h2 μ2 _ (s2.fresh hl _) (s2.freshOk hl _) l _ (e1.alive _ (e2.alive _ hl)) upd_same n1 n2 (by rw [List.length_append]; exact z)

/-! ### sorted -/
def rSortD (K : Fg) : List V → Hp → VK → Prop := fun vs H Q => ∃ (a : Addr) (xs : List V) (ps : List PyData), vs = [V.ref a] ∧ SqL K H a xs ∧ DpAll K H xs ps ∧ PySem.W.AllAlike ps ∧ PySem.W.Sortable ps ∧ (∀ p ∈ ps, p.depth ≤ 64) ∧ xs.length ≤ sizeLine ∧
  ∀ l, H l = none → Q (.ref l) (upd H l (.lst (((xs.zip ps).mergeSort (PySem.W.dataLe false (·.2))).map (·.1))))
theorem dpAll_zip {K : Fg} {H : Hp} : ∀ {xs : List V} {ps : List PyData}, DpAll K H xs ps → (xs.zip ps).map (·.2) = ps ∧ (xs.zip ps).map (·.1) = xs
  | _, _, .nil => ⟨rfl, rfl⟩
  | _, _, .cons h t => by
    obtain ⟨h1, h2⟩ := dpAll_zip t
    rw [List.zip_cons_cons, List.map_cons, List.map_cons, h1, h2]
    exact ⟨rfl, rfl⟩
theorem cr_sortD {X : Cx} (hu : X.A.units + 70 < cLine) : CallR X (.builtin "sorted") (rSortD X.K) := by
  intro pins s σ H vs us Q I r h
  obtain ⟨a, xs, ps, rfl, hs, hp, hal, hso, hdp, hz, q⟩ := h
  obtain ⟨its, rv, hl, _⟩ := I.list hs
  rw [Vals.ref1 r]
  obtain ⟨z2, z1⟩ := dpAll_zip hp
  have e1 : ∀ {xs : List V} {ps : List PyData} {its : List Value}, DpAll X.K H xs ps → Vals xs its → PySem.W.EachIs (fun (u : Value) (b : V × PyData) => RelV b.1 u) its (xs.zip ps) := by
    intro xs ps its h
    induction xs generalizing ps its with
    | nil => intro r; cases h; cases r; exact .nil
    | cons x xs ih => intro r; cases h with | cons h1 h2 => cases r with | cons r1 r2 => exact .cons r1 (ih h2 r2)
  have e2 : ∀ {xs : List V} {ps : List PyData} {its : List Value}, DpAll X.K H xs ps → Vals xs its → PySem.W.EachIs (fun (u : Value) (b : V × PyData) => ∃ as, Reads s.heap u b.2 as) its (xs.zip ps) := by
    intro xs ps its h
    induction xs generalizing ps its with
    | nil => intro r; cases h; cases r; exact .nil
    | cons x xs ih => intro r; cases h with | cons h1 h2 => cases r with | cons r1 r2 => exact .cons (Dp.reads I _ _ _ h1 r1) (ih h2 r2)
  have e3 : ∀ {out : List Value} {bs : List (V × PyData)}, PySem.W.EachIs (fun (u : Value) (b : V × PyData) => RelV b.1 u) out bs → Vals (bs.map (·.1)) out := by
    intro out bs h
    induction h with
    | nil => exact .nil
    | cons h _ ih => exact .cons h ih
  have hlen : (xs.zip ps).length = xs.length := by
    have := congrArg List.length z1
    rw [List.length_map] at this
    exact this
  refine PySem.W.sorted_data (vs := its) (bs := xs.zip ps) (enc := fun b : V × PyData => b.2) hl.isList (e1 hp rv) (e2 hp rv) (by rw [z2]; exact hal) (by rw [z2]; exact hso) (by rw [hlen]; exact hz) (fun b hb => ?_) fun out ol oe => ?_
  · have hb2 : b.2 ∈ ps := by rw [← z2]; exact List.mem_map_of_mem hb
    have := hdp b.2 hb2
    omega
  · obtain ⟨ep, he'⟩ := PyProof.Rows.sortedAll_at s.heap its out.toArray
    have lz : (((xs.zip ps).mergeSort (PySem.W.dataLe false (·.2))).map (·.1)).length ≤ sizeLine := by
      rw [List.length_map, List.length_mergeSort, hlen]
      exact hz
    exact ⟨.ref _, _, I.laid (t' := s.toks) (o := .lst (((xs.zip ps).mergeSort (PySem.W.dataLe false (·.2))).map (·.1))) (fun _ _ => PyProof.Rows.sortedAll_old) (Nat.le_succ _) ⟨lz, out, ep, e3 oe, he'⟩, rfl, q _ (I.hok.fresh (Nat.le_succ _))⟩
theorem toPs_map {S : Sto} : ∀ {ds : List D} {ps : List PyData}, toPs S ds = some ps → ds.map (fun d => (toP S d).getD .none) = ps
  | [], _, h => by cases h; rfl
  | d :: ds, ps, h => by
    have h : (match toPW (refP S 8) d, toPsW (refP S 8) ds with
      | some p, some ps => some (p :: ps)
      | _, _ => none) = some ps := h
    cases e1 : toPW (refP S 8) d with
    | none => rw [e1] at h; cases h
    | some p1 =>
      cases e2 : toPsW (refP S 8) ds with
      | none => rw [e1, e2] at h; cases h
      | some qs =>
        rw [e1, e2] at h
        cases h
        rw [List.map_cons, toPs_map (ds := ds) e2]
        show (toPW (refP S 8) d).getD .none :: qs = _
        rw [e1]
        rfl
theorem sort_rp {K : Fg} {μ : List Addr} {H : Hp} {S : Sto} {ds : List D} {vs : List V} {ps : List PyData} (r : RpA K μ H ds vs) (h : toPs S ds = some ps) :
    RpA K μ H (ds.mergeSort (PySem.W.dataLe false fun d => (toP S d).getD .none)) (((vs.zip ps).mergeSort (PySem.W.dataLe false (·.2))).map (·.1)) := by
  have hm := toPs_map h
  -- the pairs of a datum and its value
  have hz : ∀ {ds : List D} {vs : List V}, RpA K μ H ds vs → (ds.zip vs).map (·.1) = ds ∧ (ds.zip vs).map (·.2) = vs ∧ ∀ t ∈ ds.zip vs, Rp K μ H t.1 t.2 := by
    intro ds
    induction ds with
    | nil => intro vs r; rw [show vs = [] from r]; exact ⟨rfl, rfl, fun _ h => nomatch h⟩
    | cons d ds ih =>
      intro vs r
      obtain ⟨v, r', e, h1, h2⟩ := r
      subst e
      obtain ⟨i1, i2, i3⟩ := ih h2
      rw [List.zip_cons_cons, List.map_cons, List.map_cons, i1, i2]
      refine ⟨rfl, rfl, fun t ht => ?_⟩
      rcases List.mem_cons.mp ht with rfl | ht
      · exact h1
      · exact i3 t ht
  obtain ⟨z1, z2, z3⟩ := hz r
  have build : ∀ ts : List (D × V), (∀ t ∈ ts, Rp K μ H t.1 t.2) → RpA K μ H (ts.map (·.1)) (ts.map (·.2)) := by
    intro ts
    induction ts with
    | nil => intro _; exact rfl
    | cons t ts ih => intro h; exact .cons (h t List.mem_cons_self) (ih fun u hu => h u (List.mem_cons_of_mem _ hu))
  have l1 : ds.mergeSort (PySem.W.dataLe false fun d => (toP S d).getD .none) = ((ds.zip vs).mergeSort (PySem.W.dataLe false fun t : D × V => (toP S t.1).getD .none)).map (·.1) := by
    have q := List.map_mergeSort (r := PySem.W.dataLe false fun t : D × V => (toP S t.1).getD .none) (s := PySem.W.dataLe false fun d : D => (toP S d).getD .none) (f := fun t : D × V => t.1) (l := ds.zip vs) (fun a _ b _ => rfl)
    rw [z1] at q
    exact q.symm
  have l2 : (vs.zip ps) = (ds.zip vs).map fun t => (t.2, (toP S t.1).getD .none) := by
    rw [← hm]
    clear hm h z1 z2 z3 l1
    induction ds generalizing vs with
    | nil => rw [show vs = [] from r]; rfl
    | cons d ds ih =>
      obtain ⟨v, r', e, h1, h2⟩ := r
      subst e
      rw [List.map_cons, List.zip_cons_cons, List.zip_cons_cons, List.map_cons, ih h2]
  have l3 : (vs.zip ps).mergeSort (PySem.W.dataLe false (·.2)) = ((ds.zip vs).mergeSort (PySem.W.dataLe false fun t : D × V => (toP S t.1).getD .none)).map fun t => (t.2, (toP S t.1).getD .none) := by
    have q := List.map_mergeSort (r := PySem.W.dataLe false fun t : D × V => (toP S t.1).getD .none) (s := PySem.W.dataLe false fun t : V × PyData => t.2) (f := fun t : D × V => (t.2, (toP S t.1).getD .none)) (l := ds.zip vs) (fun a _ b _ => rfl)
    rw [l2]
    exact q.symm
  rw [l1, l3, List.map_map]
  exact build _ fun t ht => z3 t (List.mem_mergeSort.mp ht)
/-- sorted(d), d a dict whose keys are texts -/
def rSortK (K : Fg) : List V → Hp → VK → Prop := fun vs H Q => ∃ (a : Addr) (kvs : List (Key × V)) (ks : List Str), vs = [V.ref a] ∧ Rd H a (.dK kvs) ∧ kvs.map (·.1) = ks.map Sum.inr ∧
  ∀ l, H l = none → Q (.ref l) (upd H l (.lst ((ks.mergeSort (PySem.W.dataLe false PyData.str)).map V.str)))
theorem strs_each {h : Heap} {a : Addr} : ∀ {us : List Value} {ks : List Str}, StrsAre us ks → PySem.W.EachIs (fun (u : Value) (b : Str) => RelV (.str b) u) us ks ∧ PySem.W.EachIs (fun (u : Value) (b : Str) => ∃ as, Reads h u (.str b) as ∧ a ∉ as) us ks := by
  intro us ks h
  induction h with
  | nil => exact ⟨.nil, .nil⟩
  | cons y t _ ih => exact ⟨.cons ⟨_, rfl⟩ ih.1, .cons ⟨[], .str _ _, fun h => nomatch h⟩ ih.2⟩
theorem cr_sortK {X : Cx} (hcalm : X.calm = true) (hu : X.A.units + 70 < cLine) : CallR X (.builtin "sorted") (rSortK X.K) := by
  intro pins s σ H xs us Q I r q
  obtain ⟨a, kvs, ks, ex, hd, hks, q⟩ := q
  subst ex
  obtain ⟨u, eu, rx⟩ := vals1 r
  subst eu
  cases rx
  obtain ⟨z, lo, vs, rel, dd⟩ := dk_rd I.hok hd
  obtain ⟨ep, hat⟩ := dd.dictAt
  have hkeys : vs.map (·.1) = ks.map Sum.inr := rel.keys.symm.trans hks
  have hl : vs.length = ks.length := by
    have e := congrArg List.length hkeys
    rw [List.length_map, List.length_map] at e
    exact e
  have h16 : vs.length ≤ sizeLine := by rw [← rel.length]; exact z
  refine Calls.call_function_entry PyProof.Rows.kind_sorted PyProof.Rows.plain_sorted PyProof.Rows.entry_sorted (PyProof.Rows.args_sorted1 _) ?_
  unfold Builtin.«sorted»
  refine wpAny_bind (m := checkCount "sorted" 1 1 _) (wpAny_pure ?_)
  refine wpAny_bind (PySem.W.kdu_collect (A := X.A.in1) (PySem.W.kdl_dict (knd := mixKind X.prog X.w) (kvs := vs) (ep := ep) lo) (I.ok.hd hcalm) hat h16 fun h' tk acc hk hacc => ?_)
  have hal : acc.toList.length = ks.length := by rw [Array.length_toList, hacc.1, hl]
  have hS : StrsAre acc.toList ks := strs_at hal fun j v e => by
    obtain ⟨k, x, e1, e2⟩ := hacc.2 j v (by rw [← Array.getElem?_toList]; exact e)
    have e3 : (vs.map (·.1))[j]? = some k := by rw [List.getElem?_map, e1]; all_goals rfl
    rw [hkeys, List.getElem?_map] at e3
    cases e4 : ks[j]? with
    | none => rw [e4] at e3; cases e3
    | some y =>
      rw [e4] at e3
      have e5 : Sum.inr y = k := Option.some.inj e3
      subst e5
      obtain ⟨t, ev⟩ := Value.isStrOf_shape (x := y) (v := v) e2
      exact ⟨y, t, rfl, ev⟩
  have I1 : Inv X pins σ H { s with heap := h', toks := tk } := I.kept hk
  refine wpAny_bind (wpAny_newList ?_ (by rw [hal, ← hl]; exact h16))
  have hoL : (h'.push (seqObj "list" acc.toList.toArray 0)).get? h'.objs.size = some (seqObj "list" acc.toList.toArray 0) := Heap.get?_push_size _ rfl
  show wpAny _ _ _ _ _ { s with heap := h'.push (seqObj "list" acc.toList.toArray 0), toks := tk }
  obtain ⟨w1, w2⟩ := strs_each (h := h'.push (seqObj "list" acc.toList.toArray 0)) hS
  refine wpAny_bind (wpAny_holding (PySem.W.list_sort_data (s := { s with heap := h'.push (seqObj "list" acc.toList.toArray 0), toks := tk }) (enc := PyData.str) hoL w1 w2 (.of fun _ _ => by simp [PySem.W.alike]) (.others fun b => ⟨fun h => PyData.noConfusion h, fun _ h => PyData.noConfusion h⟩) (by rw [← hl]; exact h16) (fun b hb => ?_) fun out ol oe => ?_))
  · show X.A.units + 2 + (PyData.str b).depth < cLine
    have : (PyData.str b).depth ≤ 64 := by simp [PyData.depth]
    omega
  · obtain ⟨e', he'⟩ := PyProof.Rows.sortedHeap_at (vs := acc.toList) (out := out.toArray) hoL
    have hlen : ((ks.mergeSort (PySem.W.dataLe false PyData.str)).map V.str).length ≤ sizeLine := by
      rw [List.length_map, List.length_mergeSort, ← hl]
      exact h16
    have hv : ∀ {out : List Value} {bs : List Str}, PySem.W.EachIs (fun (u : Value) (b : Str) => RelV (.str b) u) out bs → Vals (bs.map V.str) out := by
      intro out bs h
      induction h with
      | nil => exact .nil
      | cons h _ ih => exact .cons h ih
    refine wpAny_pure ⟨_, rfl, .ref h'.objs.size, upd H h'.objs.size (.lst ((ks.mergeSort (PySem.W.dataLe false PyData.str)).map V.str)), I1.laid (t' := tk) (fun b u e => ?_) (Nat.le_refl _)
      (show ObjOk X.prog X.w _ _ _ (.lst ((ks.mergeSort (PySem.W.dataLe false PyData.str)).map V.str)) from ⟨hlen, out, e', hv oe, he'⟩), rfl, q _ (I1.hok.fresh (Nat.le_refl _))⟩
    have hb : b < h'.objs.size := Heap.lt_size e
    rw [PyProof.Rows.sortedHeap_old (Nat.ne_of_lt hb) (by rw [size_push']; exact Nat.lt_succ_of_lt hb)]
    exact Heap.get?_push_of_some _ e
theorem cr_sorted {X : Cx} (hcalm : X.calm = true) (hu : X.A.units + 70 < cLine) : CallR X (.builtin "sorted") (fun vs H Q => rSortD X.K vs H Q ∨ rSortK X.K vs H Q) := by
  intro pins s σ H xs us Q I r q
  rcases q with q | q
  · exact cr_sortD hu _ _ _ _ _ _ _ I r q
  · exact cr_sortK hcalm hu _ _ _ _ _ _ _ I r q
theorem strKeys_map : ∀ {kvs : List (Key × D)} {ds : List D}, strKeys kvs = some ds → ∃ ks : List Str, kvs.map (·.1) = ks.map Sum.inr ∧ ds = ks.map D.str
  | [], _, h => by cases h; exact ⟨[], rfl, rfl⟩
  | (.inr x, d) :: r, ds, h => by
    have h : (strKeys r).map (D.str x :: ·) = some ds := h
    cases e : strKeys r with
    | none => rw [e] at h; cases h
    | some es =>
      rw [e] at h
      cases h
      obtain ⟨ks, h1, h2⟩ := strKeys_map e
      exact ⟨x :: ks, by rw [List.map_cons, List.map_cons, h1], by rw [List.map_cons, h2]⟩
  | (.inl _, _) :: _, _, h => nomatch h
theorem toPs_strs {S : Sto} : ∀ (ks : List Str), toPs S (ks.map D.str) = some (ks.map PyData.str)
  | [] => rfl
  | k :: ks => by
    show (match toPW (refP S 8) (D.str k), toPsW (refP S 8) (ks.map D.str) with
      | some p, some ps => some (p :: ps)
      | _, _ => none) = _
    have := toPs_strs (S := S) ks
    unfold toPs at this
    rw [this]
    rfl
theorem RpA.strs {K : Fg} {μ : List Addr} {H : Hp} : ∀ ks : List Str, RpA K μ H (ks.map D.str) (ks.map V.str)
  | [] => rfl
  | _ :: ks => .cons rfl (RpA.strs ks)
theorem RpK.keysD {K : Fg} {μ : List Addr} {H : Hp} : ∀ {kvs : List (Key × D)} {vs : List (Key × V)}, RpK K μ H kvs vs → vs.map (·.1) = kvs.map (·.1)
  | [], _, h => by rw [show _ = [] from h]; rfl
  | _ :: _, _, ⟨_, _, h1, _, h3⟩ => by rw [h1, List.map_cons, List.map_cons, RpK.keysD h3]
theorem sq_sorted (hb : ("sorted" : Str) ∈ p.B) (hg : p.sc.names.lookup ("sorted" : Str) = some .globalImplicit) (hst : notStar e = true) (ha : SdR p e cr) : SdQ p (.Call (.Name "sorted" q) [e] [] pos) (.sorted cr) := fun X C g =>
  (pe_callB (cr_sorted g.calm (by have := g.un; omega)) (gl_of g hg) (g.blt _ hb) (by decide +kernel) (pa_cons (ha X C g) pa_nil (star_cons hst [] _)) (by decide) (by decide) (star_cons hst [] _) rfl).pq fun σ H Q ⟨μ, ρ, S, he, hs, h⟩ => by
    unfold evQ at h
    refine ⟨μ, ρ, S, he, hs, h.bind.imp fun x S1 μ1 H1 _ e1 s1 h1 v rv => ?_⟩
    obtain ⟨ds, eds, h1⟩ := h1.may
    unfold soOf at eds
    cases el : lsOf S1 x with
    | some ds0 =>
      rw [el] at eds
      cases eds
      obtain ⟨a, vs, rfl, h2, h3, h4⟩ := ls_rv s1 rv el
      unfold sortD at h1
      cases ep : toPs S1 ds with
      | none => rw [ep] at h1; exact h1.elim
      | some ps =>
        rw [ep] at h1
        obtain ⟨⟨z1, z2, z3⟩, h1⟩ := Po.ask h1
        refine .inl ⟨a, vs, ps, rfl, h2, toPs_dp s1 h3 ep, z1, z2, z3, by rw [← h3.length]; exact h4, fun l hl => ?_⟩
        have hr := sort_rp h3 ep
        obtain ⟨n1, n2⟩ := own_new s1 hr hl
        exact h1 μ1 _ (s1.fresh hl _) (s1.freshOk hl _) l _ (e1.alive _ hl) upd_same n1 n2 (by rw [List.length_mergeSort]; exact h4)
    | none =>
      rw [el] at eds
      cases ed : dicOf S1 x with
      | none => rw [ed] at eds; cases eds
      | some kvs =>
        rw [ed] at eds
        obtain ⟨ks, k1, rfl⟩ := strKeys_map eds
        obtain ⟨a, vs, rfl, h2, h3, h4, _⟩ := dic_rv s1 rv ed
        unfold sortD at h1
        rw [toPs_strs] at h1
        obtain ⟨⟨z1, z2, z3⟩, h1⟩ := Po.ask h1
        refine .inr ⟨a, vs, ks, rfl, .of h2, h3.keysD.trans k1, fun l hl => ?_⟩
        have e1' : (ks.map D.str).mergeSort (PySem.W.dataLe false fun d => (toP S1 d).getD .none) = (ks.mergeSort (PySem.W.dataLe false PyData.str)).map D.str :=
          (List.map_mergeSort (r := PySem.W.dataLe false PyData.str) (s := PySem.W.dataLe false fun d : D => (toP S1 d).getD .none) (f := D.str) (l := ks) (fun a _ b _ => rfl)).symm
        rw [e1'] at h1
        have hr : RpA X.K μ1 H1 ((ks.mergeSort (PySem.W.dataLe false PyData.str)).map D.str) ((ks.mergeSort (PySem.W.dataLe false PyData.str)).map V.str) := RpA.strs _
        obtain ⟨n1, n2⟩ := own_new s1 hr hl
        have hlen : kvs.length = ks.length := by
          have := congrArg List.length k1
          rw [List.length_map, List.length_map] at this
          exact this
        exact h1 μ1 _ (s1.fresh hl _) (s1.freshOk hl _) l _ (e1.alive _ hl) upd_same n1 n2 (by rw [List.length_map, List.length_mergeSort, ← hlen]; exact h4)

/-! ### list(range(..)) -/
theorem rgD_rp {K : Fg} {μ : List Addr} {H : Hp} (i j : Int) : RpA K μ H (rgD i j) (rgV i j) := by
  unfold rgD rgV
  generalize (List.range (j - i).toNat) = l
  induction l with
  | nil => exact rfl
  | cons k l ih => exact .cons rfl ih
theorem rgD_len (i j : Int) : (rgD i j).length = (j - i).toNat := by unfold rgD; rw [List.length_map, List.length_range]
theorem sq_listRg1 {q2 pos2 : Pos} (hb : ("list" : Str) ∈ p.B) (hg : p.sc.names.lookup ("list" : Str) = some .globalImplicit) (hb2 : ("range" : Str) ∈ p.B) (hg2 : p.sc.names.lookup ("range" : Str) = some .globalImplicit) (hst : notStar a = true) (ha : SdE p a ca) :
    SdQ p (.Call (.Name "list" q) [.Call (.Name "range" q2) [a] [] pos2] [] pos) (.listRg (.lit (.int 0)) ca) := fun X C g =>
  (pe_listRg g.calm (gl_of g hg) (g.blt _ hb) (prg_1 (gl_of g hg2) (g.blt _ hb2) (ha X C g) (star_cons hst [] _)) rfl).pq fun σ H Q ⟨μ, ρ, S, he, hs, h⟩ => by
    have h0 : evE C (.lit (.int 0)) ρ S = Res.ok (D.int 0) S := by rw [evE]
    unfold evQ at h
    rw [h0] at h
    refine ⟨μ, ρ, S, he, hs, Po.imp (Po.bind (r := evE C ca ρ S) h) fun y S1 μ1 H1 _ e1 s1 h1 v rv => ?_⟩
    cases y with
    | int j =>
      obtain ⟨z, h1⟩ := Po.ask (show Po X.K μ1 H1 (ask (RgOk 0 j) (Res.ok (rgD 0 j) S1)) _ from h1)
      refine ⟨j, rv, z, fun l hl => ?_⟩
      obtain ⟨n1, n2⟩ := own_new s1 (rgD_rp 0 j) hl
      exact h1 μ1 _ (s1.fresh hl _) (s1.freshOk hl _) l _ (e1.alive _ hl) upd_same n1 n2 (by rw [rgD_len, sizeLine_eq]; have := z.2.2.2.2; omega)
    | _ => exact (show False from h1).elim
theorem sq_listRg2 {q2 pos2 : Pos} (hb : ("list" : Str) ∈ p.B) (hg : p.sc.names.lookup ("list" : Str) = some .globalImplicit) (hb2 : ("range" : Str) ∈ p.B) (hg2 : p.sc.names.lookup ("range" : Str) = some .globalImplicit) (hst : notStar a = true) (hst2 : notStar b = true) (ha : SdE p a ca) (hb' : SdE p b cb) :
    SdQ p (.Call (.Name "list" q) [.Call (.Name "range" q2) [a, b] [] pos2] [] pos) (.listRg ca cb) := fun X C g =>
  (pe_listRg g.calm (gl_of g hg) (g.blt _ hb) (prg_2 (gl_of g hg2) (g.blt _ hb2) (ha X C g) (hb' X C g) (star_cons hst [b] _) (star_cons hst2 [] _) (star_any _ _ (show [b].all notStar = true by rw [List.all_cons, hst2]; rfl))) rfl).pq fun σ H Q ⟨μ, ρ, S, he, hs, h⟩ => by
    unfold evQ at h
    refine ⟨μ, ρ, S, he, hs, h.bind.imp fun x S1 μ1 H1 _ e1 s1 h1 v rv => ?_⟩
    refine ⟨μ1, ρ, S1, he.mono e1, s1, h1.bind.imp fun y S2 μ2 H2 _ e2 s2 h2 u ru => ?_⟩
    cases x with
    | int i =>
      cases y with
      | int j =>
        obtain ⟨z, h2⟩ := Po.ask (show Po X.K μ2 H2 (ask (RgOk i j) (Res.ok (rgD i j) S2)) _ from h2)
        refine ⟨i, j, rv, ru, z, fun l hl => ?_⟩
        obtain ⟨n1, n2⟩ := own_new s2 (rgD_rp i j) hl
        exact h2 μ2 _ (s2.fresh hl _) (s2.freshOk hl _) l _ (e1.alive _ (e2.alive _ hl)) upd_same n1 n2 (by rw [rgD_len, sizeLine_eq]; have := z.2.2.2.2; omega)
      | _ => exact (show False from h2).elim
    | _ => exact (show False from h2).elim
end

/-! ### what is walked -/
/-- the walk of t's items, as long as nothing of the walked list is changed -/
def ItOk (K : Fg) (μ₀ : List Addr) (H₀ : Hp) (t : Itv) (J : It) : Prop := ∀ μ H S, Ext K μ₀ H₀ μ H → StOk K μ H S → t.still S → (∀ i, i < t.items.length → J.go i H ∧ ∀ x H', J.yld i H x H' → H' = H ∧ ∃ d, t.items[i]? = some d ∧ Rp K μ H d x) ∧ J.stop t.items.length H
def tI (K : Fg) (f : En → Sto → Res Itv) : TI := fun σ H R => ∃ μ ρ S, EnvOk K μ H ρ σ ∧ StOk K μ H S ∧ Po K μ H (f ρ S) fun t S' μ' H' => ∀ J, ItOk K μ' H' t J → R J H'
def SdI (p : Pl) (tg e : Expr) (c : CI) : Prop := ∀ X C, Good X p C → PI X tg e (tI X.K (evI C c))
/-- a list or a tuple, whichever comes -/
def iSeq (K : Fg) (tl : TE) : TI := fun σ H R => tl σ H fun x H1 => ∃ a, x = .ref a ∧ (((∃ xs, SqL K H1 a xs) ∧ R (Itl K a) H1) ∨ ((∃ xs, SqT K H1 a xs) ∧ R (Itt K a) H1))
/-- .. or a text -/
def iSeqS (K : Fg) (tl : TE) : TI := fun σ H R => tl σ H fun x H1 => (∃ a, x = .ref a ∧ (((∃ xs, SqL K H1 a xs) ∧ R (Itl K a) H1) ∨ ((∃ xs, SqT K H1 a xs) ∧ R (Itt K a) H1))) ∨ ∃ z, x = .str z ∧ R (Its z) H1
theorem pi_seqS {X : Cx} {tg l : Expr} {tl : TE} (hl : PE X l tl) : PI X tg l (iSeqS X.K tl) := by
  refine ⟨fun pins s σ H R I h => ?_⟩
  refine thn (hl.run pins s σ H _ I h) fun v s1 ⟨x, H1, I1, r1, q1⟩ => ?_
  rcases q1 with ⟨a, e, q⟩ | ⟨z, e, q⟩
  · subst e
    cases r1
    rcases q with ⟨⟨xs, hq⟩, q⟩ | ⟨⟨xs, hq⟩, q⟩
    · obtain ⟨its, rv, p, hz⟩ := I1.list hq
      refine wpAny_pyIter_list p.isList ?_
      refine ⟨s1.heap.objs.size, [s1.heap.objs.size], _, _, H1, rfl, I1.kept (t' := s1.toks) fun b o e => Heap.get?_push_of_some _ e, turn_list a _, ⟨_, Heap.get?_push_size _ rfl, rfl, rfl⟩, fun b hb => ?_, q⟩
      have e : b = s1.heap.objs.size := by simpa using hb
      subst e
      exact I1.fpOk (Nat.le_refl _) (I1.hok.fresh (Nat.le_refl _))
    · obtain ⟨its, rv, p, hz⟩ := I1.tuple hq
      refine wpAny_pyIter_tuple (show s1.heap.IsTuple a its.toArray from p) ?_
      refine ⟨s1.heap.objs.size, [s1.heap.objs.size], _, _, H1, rfl, I1.kept (t' := s1.toks) fun b o e => Heap.get?_push_of_some _ e, turn_tuple a _, ⟨_, Heap.get?_push_size _ rfl, rfl, rfl⟩, fun b hb => ?_, q⟩
      have e : b = s1.heap.objs.size := by simpa using hb
      subst e
      exact I1.fpOk (Nat.le_refl _) (I1.hok.fresh (Nat.le_refl _))
  · subst e
    obtain ⟨t, rfl⟩ := r1
    cases ha : z.cps.all (· < 128)
    · exact wpAny_pyIter_wide ha (pi_one (tk := s1.toks) I1 _ (turn_str _ z t "str_iterator" (.inr rfl)) ⟨_, Heap.get?_push_size _ rfl, rfl, rfl⟩ q)
    · exact wpAny_pyIter_ascii ha (pi_one (tk := s1.toks) I1 _ (turn_str _ z t "str_ascii_iterator" (.inl rfl)) ⟨_, Heap.get?_push_size _ rfl, rfl, rfl⟩ q)
theorem its_ok {K : Fg} {μ : List Addr} {H : Hp} {z : Str} : (∀ i, i < (lettersD z).length → (Its z).go i H ∧ ∀ x H', (Its z).yld i H x H' → H' = H ∧ ∃ d, (lettersD z)[i]? = some d ∧ Rp K μ H d x) ∧ (Its z).stop (lettersD z).length H := by
  have hl : (lettersD z).length = z.cps.size := by
    unfold lettersD
    rw [List.length_map, Array.length_toList]
  refine ⟨fun i hi => ⟨by show i < z.cps.size; omega, fun x H' y => ?_⟩, by show z.cps.size ≤ _; omega⟩
  obtain ⟨e, c, ec, rfl⟩ := y
  refine ⟨e, .str ⟨#[c]⟩, ?_, rfl⟩
  unfold lettersD
  rw [List.getElem?_map, Array.getElem?_toList, ec]
  rfl
theorem pi_seq {X : Cx} {tg l : Expr} {tl : TE} (hl : PE X l tl) : PI X tg l (iSeq X.K tl) := by
  refine ⟨fun pins s σ H R I h => ?_⟩
  refine thn (hl.run pins s σ H _ I h) fun v s1 ⟨x, H1, I1, r1, q1⟩ => ?_
  obtain ⟨a, e, q⟩ := q1
  subst e
  cases r1
  rcases q with ⟨⟨xs, hq⟩, q⟩ | ⟨⟨xs, hq⟩, q⟩
  · obtain ⟨its, rv, p, hz⟩ := I1.list hq
    refine wpAny_pyIter_list p.isList ?_
    refine ⟨s1.heap.objs.size, [s1.heap.objs.size], _, _, H1, rfl, I1.kept (t' := s1.toks) fun b o e => Heap.get?_push_of_some _ e, turn_list a _, ⟨_, Heap.get?_push_size _ rfl, rfl, rfl⟩, fun b hb => ?_, q⟩
    have e : b = s1.heap.objs.size := by simpa using hb
    subst e
    exact I1.fpOk (Nat.le_refl _) (I1.hok.fresh (Nat.le_refl _))
  · obtain ⟨its, rv, p, hz⟩ := I1.tuple hq
    refine wpAny_pyIter_tuple (show s1.heap.IsTuple a its.toArray from p) ?_
    refine ⟨s1.heap.objs.size, [s1.heap.objs.size], _, _, H1, rfl, I1.kept (t' := s1.toks) fun b o e => Heap.get?_push_of_some _ e, turn_tuple a _, ⟨_, Heap.get?_push_size _ rfl, rfl, rfl⟩, fun b hb => ?_, q⟩
    have e : b = s1.heap.objs.size := by simpa using hb
    subst e
    exact I1.fpOk (Nat.le_refl _) (I1.hok.fresh (Nat.le_refl _))
theorem Ext.own {K : Fg} {μ μ' : List Addr} {H H' : Hp} (e : Ext K μ H μ' H') {a : Addr} {vs : List V} (h : H a = some (.lst vs)) (n : a ∉ μ) : SqL K H' a vs := .of (e.fr a _ h n)
section
variable {p : Pl} {a b e tg : Expr} {ca cb : CE} {cr : CR} {pos q : Pos}
theorem itl_ok {K : Fg} {μ : List Addr} {H : Hp} {a : Addr} {vs : List V} {ds : List D} (h : SqL K H a vs) (r : RpA K μ H ds vs) : (∀ i, i < ds.length → (Itl K a).go i H ∧ ∀ x H', (Itl K a).yld i H x H' → H' = H ∧ ∃ d, ds[i]? = some d ∧ Rp K μ H d x) ∧ (Itl K a).stop ds.length H := by
  have hl := r.length
  refine ⟨fun i hi => ⟨⟨vs, vs[i], h, List.getElem?_eq_getElem (by omega)⟩, fun x H' y => ⟨y.1, r.getV (y.2 vs h)⟩⟩, vs, h, by omega⟩
theorem itt_ok {K : Fg} {μ : List Addr} {H : Hp} {a : Addr} {vs : List V} {ds : List D} (h : SqT K H a vs) (r : RpA K μ H ds vs) : (∀ i, i < ds.length → (Itt K a).go i H ∧ ∀ x H', (Itt K a).yld i H x H' → H' = H ∧ ∃ d, ds[i]? = some d ∧ Rp K μ H d x) ∧ (Itt K a).stop ds.length H := by
  have hl := r.length
  refine ⟨fun i hi => ⟨⟨vs, vs[i], h, List.getElem?_eq_getElem (by omega)⟩, fun x H' y => ⟨y.1, r.getV (y.2 vs h)⟩⟩, vs, h, by omega⟩
theorem si_r (ha : SdR p e cr) : SdI p tg e (.r cr) := fun X C g => by
  refine ⟨fun pins s σ H R I h => (pi_seqS (ha X C g)).run pins s σ H R I ?_⟩
  obtain ⟨μ, ρ, S, he, hs, h⟩ := h
  unfold evI at h
  refine ⟨μ, ρ, S, he, hs, h.bind.imp fun r S1 μ1 H1 _ e1 s1 h1 v rv => ?_⟩
  obtain ⟨t, et, h1⟩ := h1.may
  have h1 := h1.at s1
  cases r with
  | own ds =>
    cases et
    obtain ⟨a, vs, rfl, k1, k2, k3, _⟩ := rv
    exact .inl ⟨a, rfl, .inl ⟨⟨vs, .of k1⟩, h1 _ fun μ H S x _ _ => itl_ok (x.own k1 k2) (k3.mono x)⟩⟩
  | val d =>
    cases d with
    | str z =>
      cases et
      exact .inr ⟨z, rv, h1 _ fun μ H S x _ _ => its_ok⟩
    | tup ds =>
      cases et
      obtain ⟨a, vs, rfl, k1, k2, _⟩ := rv
      exact .inl ⟨a, rfl, .inr ⟨⟨vs, k1.sq⟩, h1 _ fun μ H S x _ _ => itt_ok (x.tup _ _ k1).sq (k2.mono x)⟩⟩
    | fix ds =>
      cases et
      obtain ⟨a, vs, rfl, k1, k2, _⟩ := rv
      exact .inl ⟨a, rfl, .inl ⟨⟨vs, k1.sq⟩, h1 _ fun μ H S x _ _ => itl_ok (x.fix _ _ k1).sq (k2.mono x)⟩⟩
    | ref i =>
      have et : (sqOf S1 (.val (.ref i))).map (fun ds => (⟨ds, some i⟩ : Itv)) = some t := et
      cases es : sqOf S1 (.val (.ref i)) with
      | none => rw [es] at et; cases et
      | some ds =>
        rw [es] at et
        cases et
        obtain ⟨a, rfl, ea⟩ := rv
        obtain ⟨a', vs, e', k1, k2, _⟩ := sq_rv (r := .val (.ref i)) s1 ⟨a, rfl, ea⟩ es
        cases e'
        have k1 : SqL X.K H1 a vs := k1.elim id fun z => by cases z.2
        refine .inl ⟨a, rfl, .inl ⟨⟨vs, k1⟩, h1 _ fun μ H S x st sl => ?_⟩⟩
        obtain ⟨us, u1, u2, _⟩ := st.lst (show S[i]? = some (.lst ds) from sl) (x.get ea)
        exact itl_ok (SqL.of u1) u2
    | _ => cases et
theorem itr_ok {K : Fg} {μ : List Addr} {H : Hp} (i j : Int) : (∀ k, k < (rgD i j).length → (Itr i (j - i).toNat).go k H ∧ ∀ x H', (Itr i (j - i).toNat).yld k H x H' → H' = H ∧ ∃ d, (rgD i j)[k]? = some d ∧ Rp K μ H d x) ∧ (Itr i (j - i).toNat).stop (rgD i j).length H := by
  rw [rgD_len]
  refine ⟨fun k hk => ⟨hk, fun x H' y => ⟨y.1, .int (i + (k : Nat)), ?_, y.2⟩⟩, Nat.le_refl _⟩
  unfold rgD
  rw [List.getElem?_map, List.getElem?_range hk]
  rfl
theorem si_rg1 {pos2 : Pos} (hb : ("range" : Str) ∈ p.B) (hg : p.sc.names.lookup ("range" : Str) = some .globalImplicit) (hst : notStar a = true) (ha : SdE p a ca) : SdI p tg (.Call (.Name "range" q) [a] [] pos) (.rg (.lit (.int 0)) ca) := fun X C g => by
  refine ⟨fun pins s σ H R I h => (pi_range1 (gl_of g hg) (g.blt _ hb) (pa_cons (ha X C g) pa_nil (star_cons hst [] _)) (star_cons hst [] _)).run pins s σ H R I ?_⟩
  obtain ⟨μ, ρ, S, he, hs, h⟩ := h
  have h0 : evE C (.lit (.int 0)) ρ S = Res.ok (D.int 0) S := by rw [evE]
  unfold evI at h
  rw [h0] at h
  refine ⟨μ, ρ, S, he, hs, Po.imp (Po.bind (r := evE C ca ρ S) h) fun y S1 μ1 H1 _ e1 s1 h1 v rv => ?_⟩
  cases y with
  | int j =>
    obtain ⟨z, h1⟩ := Po.ask (show Po X.K μ1 H1 (ask (bd62 0 ∧ bd62 j) (Res.ok (⟨rgD 0 j, none⟩ : Itv) S1)) _ from h1)
    refine ⟨j, by rw [show v = V.int j from rv], z.2.1, z.2.2, ?_⟩
    have k := h1.at s1 (Itr 0 (j - 0).toNat) fun μ H S _ _ _ => itr_ok 0 j
    rw [Int.sub_zero] at k
    exact k
  | _ => exact (show False from h1).elim
theorem si_rg2 {pos2 : Pos} (hb : ("range" : Str) ∈ p.B) (hg : p.sc.names.lookup ("range" : Str) = some .globalImplicit) (hst : notStar a = true) (hst2 : notStar b = true) (ha : SdE p a ca) (hb' : SdE p b cb) : SdI p tg (.Call (.Name "range" q) [a, b] [] pos) (.rg ca cb) := fun X C g => by
  refine ⟨fun pins s σ H R I h => (pi_range2 (gl_of g hg) (g.blt _ hb) (pa_cons (ha X C g) (pa_cons (hb' X C g) pa_nil (star_cons hst2 [] _)) (star_cons hst [b] _)) (by rw [star_cons hst, star_cons hst2]; rfl) (star_cons hst2 [] _)).run pins s σ H R I ?_⟩
  obtain ⟨μ, ρ, S, he, hs, h⟩ := h
  unfold evI at h
  refine ⟨μ, ρ, S, he, hs, h.bind.imp fun x S1 μ1 H1 _ e1 s1 h1 v rv => ?_⟩
  refine ⟨μ1, ρ, S1, he.mono e1, s1, h1.bind.imp fun y S2 μ2 H2 _ e2 s2 h2 u ru => ?_⟩
  cases x with
  | int i =>
    cases y with
    | int j =>
      obtain ⟨z, h2⟩ := Po.ask (show Po X.K μ2 H2 (ask (bd62 i ∧ bd62 j) (Res.ok (⟨rgD i j, none⟩ : Itv) S2)) _ from h2)
      exact ⟨i, j, by rw [show v = V.int i from rv, show u = V.int j from ru], ⟨z.1.1, z.1.2, z.2.1, z.2.2⟩, h2.at s2 _ fun μ H S _ _ _ => itr_ok i j⟩
    | _ => exact (show False from h2).elim
  | _ => exact (show False from h2).elim
theorem rgdD_len (i j : Int) : (rgdD i j).length = (i - j).toNat := by
  unfold rgdD
  rw [List.length_map, List.length_range]
theorem itrd_ok {K : Fg} {μ : List Addr} {H : Hp} (i j : Int) : (∀ k, k < (rgdD i j).length → (Itc i (-1) (i - j).toNat).go k H ∧ ∀ x H', (Itc i (-1) (i - j).toNat).yld k H x H' → H' = H ∧ ∃ d, (rgdD i j)[k]? = some d ∧ Rp K μ H d x) ∧ (Itc i (-1) (i - j).toNat).stop (rgdD i j).length H := by
  rw [rgdD_len]
  refine ⟨fun k hk => ⟨hk, fun x H' y => ⟨y.1, .int (i - (k : Nat)), ?_, ?_⟩⟩, Nat.le_refl _⟩
  · unfold rgdD
    rw [List.getElem?_map, List.getElem?_range hk]
    rfl
  · show x = V.int (i - (k : Nat))
    rw [y.2]
    congr 1
    omega
theorem si_rgd {pos2 p1 p2 : Pos} {k : Nat} (hb : ("range" : Str) ∈ p.B) (hg : p.sc.names.lookup ("range" : Str) = some .globalImplicit) (hst : notStar a = true) (hst2 : notStar b = true) (ha : SdE p a ca) (hb' : SdE p b cb) : SdI p tg (.Call (.Name "range" q) [a, b, .UnaryOp .USub (.Constant (.int 1) k p1) p2] [] pos) (.rgd ca cb) := fun X C g => by
  refine ⟨fun pins s σ H R I h => (pi_range3 (gl_of g hg) (g.blt _ hb) (pa_cons (ha X C g) (pa_cons (hb' X C g) (pa_cons (pe_un un_neg (pe_int (i := 1))) pa_nil rfl) (star_cons hst2 _ _)) (star_cons hst _ _)) (star_cons hst _ _) (by rw [star_cons hst2]; rfl)).run pins s σ H R I ?_⟩
  obtain ⟨μ, ρ, S, he, hs, h⟩ := h
  unfold evI at h
  refine ⟨μ, ρ, S, he, hs, h.bind.imp fun x S1 μ1 H1 _ e1 s1 h1 v rv => ?_⟩
  refine ⟨μ1, ρ, S1, he.mono e1, s1, h1.bind.imp fun y S2 μ2 H2 _ e2 s2 h2 u ru => ?_⟩
  cases x with
  | int i =>
    cases y with
    | int j =>
      obtain ⟨z, h2⟩ := Po.ask (show Po X.K μ2 H2 (ask (bd62 i ∧ bd62 j) (Res.ok (⟨rgdD i j, none⟩ : Itv) S2)) _ from h2)
      exact ⟨1, rfl, i, j, -1, (i - j).toNat, by rw [show v = V.int i from rv, show u = V.int j from ru], .neg z.1.1 z.1.2 z.2.1 z.2.2, h2.at s2 _ fun μ H S _ _ _ => itrd_ok i j⟩
    | _ => exact (show False from h2).elim
  | _ => exact (show False from h2).elim
end
end PQ

/-! Targets, comprehensions. -/
namespace PQ
open PySem PySem.Spec PyProof.Rows L2
/-! ### targets -/
/-- σ' is σ with some of the slots `is` stored -/
inductive SetsIn (is : List Nat) : Slots → Slots → Prop
  | refl (σ : Slots) : SetsIn is σ σ
  | step {σ σ' : Slots} {i : Nat} {v : V} : i ∈ is → SetsIn is (σ.set i (some v)) σ' → SetsIn is σ σ'
theorem SetsIn.mono {is js : List Nat} (h : ∀ i, i ∈ is → i ∈ js) : ∀ {σ σ' : Slots}, SetsIn is σ σ' → SetsIn js σ σ'
  | _, _, .refl σ => .refl σ
  | _, _, .step m t => .step (h _ m) (SetsIn.mono h t)
theorem wipe_set {i : Nat} {o : Option V} : ∀ {vs : List Nat} {σ : Slots}, i ∈ vs → L2.wipe (σ.set i o) vs = L2.wipe σ vs
  | v :: vs, σ, h => by
    unfold L2.wipe
    by_cases hv : i ∈ vs
    · rw [wipe_set hv]
    · have e : i = v := by
        rcases List.mem_cons.mp h with e | h
        · exact e
        · exact absurd h hv
      subst e
      -- i is stored last, whatever stood there
      have key : ∀ (ws : List Nat) (σ : Slots), L2.wipe (σ.set i o) ws = (L2.wipe σ ws).set i (if i ∈ ws then none else o) ∨ (L2.wipe (σ.set i o) ws).set i none = (L2.wipe σ ws).set i none := by
        intro ws
        induction ws with
        | nil => intro σ; right; unfold L2.wipe; rw [List.set_set]
        | cons w ws ih =>
          intro σ
          right
          unfold L2.wipe
          have ih' : (L2.wipe (σ.set i o) ws).set i none = (L2.wipe σ ws).set i none := by
            rcases ih σ with h | h
            · rw [h, List.set_set]
            · exact h
          by_cases hw : w = i
          · subst hw; rw [List.set_set, List.set_set]; exact ih'
          · rw [List.set_comm _ _ hw, List.set_comm _ _ hw, ih']
      rcases key vs σ with h | h
      · rw [h, List.set_set]
      · exact h
theorem SetsIn.wipe {is : List Nat} : ∀ {σ σ' : Slots}, SetsIn is σ σ' → L2.wipe σ' is = L2.wipe σ is
  | _, _, .refl _ => rfl
  | _, _, .step m t => by rw [SetsIn.wipe t, wipe_set m]
theorem wipe_wipe : ∀ (vs : List Nat) (σ : Slots), (∀ us : List Nat, (∀ u, u ∈ vs → u ∈ us) → L2.wipe (L2.wipe σ vs) us = L2.wipe σ us)
  | [], σ, us, _ => rfl
  | v :: vs, σ, us, h => by
    show L2.wipe ((L2.wipe σ vs).set v none) us = _
    rw [wipe_set (h v List.mem_cons_self)]
    exact wipe_wipe vs σ us fun u hu => h u (List.mem_cons_of_mem _ hu)
def CN.slots : CN → List Nat
  | .nm i => [i]
  | .tup is => is
/-- a target takes a value -/
def tN (K : Fg) (g : CN) : TG := fun v σ H Q => ∃ μ ρ S d ρ', EnvOk K μ H ρ σ ∧ StOk K μ H S ∧ Rp K μ H d v ∧ bindN g d ρ S = some ρ' ∧ ∀ σ', EnvOk K μ H ρ' σ' → SetsIn g.slots σ σ' → Q σ' H
def SdN (p : Pl) (tg : Expr) (g : CN) : Prop := ∀ X C, Good X p C → X.fn = (fun _ => true) ∨ (∀ i ∈ g.slots, ∀ x, p.N[i]? = some x → p.sc.names.lookup x = some .local ∨ X.fn x = true) → PG X tg (tN X.K g)
end PQ
namespace L2
open PySem PySem.Spec PyProof.Rows
theorem PG.pq {X : Cx} {e : Expr} {t t' : TG} (h : PG X e t) (q : ∀ v σ H Q, t' v σ H Q → t v σ H Q) : PG X e t' := ⟨fun pins s σ H v u Q I r hw => h.run pins s σ H v u Q I r (q v σ H Q hw)⟩
theorem PGs.pq {X : Cx} {e : List Expr} {t t' : TGs} (h : PGs X e t) (q : ∀ v σ H Q, t' v σ H Q → t v σ H Q) : PGs X e t' := ⟨fun pins s σ H v u Q I r hw => h.run pins s σ H v u Q I r (q v σ H Q hw)⟩
theorem PS.pq {X : Cx} {e : Stmt} {t t' : TS} (h : PS X e t) (q : ∀ D σ H, t' D σ H → t D σ H) : PS X e t' := ⟨fun pins s σ H D I hw => h.run pins s σ H D I (q D σ H hw)⟩
theorem PSs.pq {X : Cx} {e : List Stmt} {t t' : TS} (h : PSs X e t) (q : ∀ D σ H, t' D σ H → t D σ H) : PSs X e t' := ⟨fun pins s σ H D I hw => h.run pins s σ H D I (q D σ H hw)⟩
/-- an unpacked tuple or list -/
theorem pg_or {X : Cx} {e : Expr} {t u : TG} (h : PG X e t) (h' : PG X e u) : PG X e (fun v σ H Q => t v σ H Q ∨ u v σ H Q) :=
  ⟨fun pins s σ H v w Q I r hw => hw.elim (h.run pins s σ H v w Q I r) (h'.run pins s σ H v w Q I r)⟩
end L2
namespace PQ
open PySem PySem.Spec PyProof.Rows L2
section
variable {p : Pl} {pos q : Pos}
/-- a name's place, where it can be stored -/
def NameAt (p : Pl) (x : Str) (i : Nat) : Prop := p.N[i]? = some x ∧ Loc p.sc x
theorem sn_nm {x : Str} {i : Nat} (h : NameAt p x i) : SdN p (.Name x pos) (.nm i) := fun X C g hf => by
  have hl : X.fn x = true ∨ X.env.scope.names.lookup x = some .local := by
    rcases hf with hf | hf
    · rw [hf]; exact .inl rfl
    · rw [g.sc]; exact (hf i (List.mem_singleton.mpr rfl) x h.1).symm
  refine (pg_name (i := i) g.nd (by rw [g.N]; exact h.1) (by rw [g.sc]; exact h.2) hl).pq fun v σ H Q ⟨μ, ρ, S, d, ρ', he, hs, r, e, k⟩ => ?_
  cases e
  exact k _ (he.set r i) (.step (List.mem_singleton.mpr rfl) (.refl _))
inductive NamesAt (p : Pl) : List Expr → List Nat → Prop
  | nil : NamesAt p [] []
  | cons {x : Str} {i : Nat} {q : Pos} {es : List Expr} {is : List Nat} : NameAt p x i → NamesAt p es is → NamesAt p (.Name x q :: es) (i :: is)
def tNs (K : Fg) (is : List Nat) : TGs := fun vs σ H Q => ∃ μ ρ ds ρ', EnvOk K μ H ρ σ ∧ RpA K μ H ds vs ∧ setAll is ds ρ = some ρ' ∧ ∀ σ', EnvOk K μ H ρ' σ' → SetsIn is σ σ' → Q σ' H
theorem sn_all {es : List Expr} {is : List Nat} (h : NamesAt p es is) {X : Cx} {C : Orc} (g : Good X p C) (hf : X.fn = (fun _ => true) ∨ (∀ i ∈ is, ∀ x, p.N[i]? = some x → p.sc.names.lookup x = some .local ∨ X.fn x = true)) : PGs X es (tNs X.K is) := by
  induction h with
  | nil =>
    refine pgs_nil.pq fun vs σ H Q ⟨μ, ρ, ds, ρ', he, r, e, k⟩ => ?_
    cases ds with
    | nil => cases e; exact ⟨r, k _ he (.refl _)⟩
    | cons d ds => cases e
  | @cons x i q es is hx _ ih =>
    have hl : X.fn x = true ∨ X.env.scope.names.lookup x = some .local := by
      rcases hf with hf | hf
      · rw [hf]; exact .inl rfl
      · rw [g.sc]; exact (hf i List.mem_cons_self x hx.1).symm
    have ih := ih (hf.imp id fun hf j hj => hf j (List.mem_cons_of_mem _ hj))
    refine (pgs_cons (pg_name (i := i) g.nd (by rw [g.N]; exact hx.1) (by rw [g.sc]; exact hx.2) hl) ih rfl).pq fun vs σ H Q ⟨μ, ρ, ds, ρ', he, r, e, k⟩ => ?_
    cases ds with
    | nil => cases e
    | cons d ds =>
      obtain ⟨v, r', e1, h1, h2⟩ := r
      subst e1
      exact ⟨v, r', rfl, μ, ρ.set i (some d), ds, ρ', he.set h1 i, h2, e, fun σ' he' hs' => k σ' he' (.step List.mem_cons_self (hs'.mono fun j hj => List.mem_cons_of_mem _ hj))⟩
theorem setAll_len : ∀ {is : List Nat} {ds : List D} {ρ ρ' : En}, setAll is ds ρ = some ρ' → ds.length = is.length
  | [], [], _, _, _ => rfl
  | [], _ :: _, _, _, h => by cases h
  | _ :: _, [], _, _, h => by cases h
  | i :: is, d :: ds, ρ, ρ', h => by
    have h : setAll is ds (ρ.set i (some d)) = some ρ' := h
    rw [List.length_cons, List.length_cons, setAll_len h]
theorem names_each {es : List Expr} {is : List Nat} (h : NamesAt p es is) (env : Env) : (assignEach es env).length = is.length ∧ (assignEach es env).findIdx? (·.1) = none := by
  induction h with
  | nil => exact ⟨rfl, rfl⟩
  | @cons x i q es is hx _ ih =>
    have e : assignEach (.Name x q :: es) env = (false, assign (.Name x q) env) :: assignEach es env := rfl
    rw [e]
    refine ⟨by rw [List.length_cons, List.length_cons, ih.1], ?_⟩
    rw [List.findIdx?_cons]
    show (if (false : Bool) = true then some 0 else Option.map (fun i => i + 1) (List.findIdx? (fun x => x.1) (assignEach es env))) = none
    rw [if_neg Bool.false_ne_true, ih.2]
    rfl
theorem sn_tup {es : List Expr} {is : List Nat} {k : Nat} (h : NamesAt p es is) : SdN p (.Tuple es k pos) (.tup is) := fun X C g hf => by
  have hs := sn_all h g hf
  obtain ⟨n1, n2⟩ := names_each h X.env
  refine (pg_or (pg_tup (n := is.length) g.calm hs n1 n2) (pg_unl (n := is.length) g.calm hs n1 n2)).pq fun v σ H Q ⟨μ, ρ, S, d, ρ', he, hs, r, e, k⟩ => ?_
  have e : (sqOf S (.val d)).bind (fun ds => setAll is ds ρ) = some ρ' := e
  cases es : sqOf S (.val d) with
  | none => rw [es] at e; cases e
  | some ds =>
    rw [es] at e
    have e : setAll is ds ρ = some ρ' := e
    obtain ⟨a, vs, rfl, h1, h2, _⟩ := sq_rv (r := .val d) hs r es
    have hl : vs.length = is.length := h2.length.symm.trans (setAll_len e)
    rcases h1 with h1 | ⟨h1, _⟩
    · exact .inr ⟨a, vs, rfl, h1, hl, μ, ρ, ds, ρ', he, h2, e, k⟩
    · exact .inl ⟨a, vs, rfl, h1.sq, hl, μ, ρ, ds, ρ', he, h2, e, k⟩
end

/-! ### comprehensions -/
theorem Good.blk {X : Cx} {p : Pl} {C : Orc} (g : Good X p C) (s : Shared) (H : Hp) (scope : Scope) (cl : List (Str × Addr)) (c : Addr) (fp : List Addr) : Good (X.blk s H scope (compEnvC scope cl c X.env) fp) { p with sc := relS scope p.sc } C :=
  ⟨g.calm, g.nd, g.un, PassesOwn.never, g.N, by show relS scope X.env.scope = _; rw [g.sc], g.blt, g.glb, g.fn⟩
section
variable {K : Fg} {μ μ' μ1 : List Addr} {H H' H1 : Hp} {S : Sto}
/-- one's own list is changed -/
theorem own_le {D : Addr} {vs us : List V} (h : H D = some (.lst vs)) : Le K μ H μ (upd H D (.lst us)) := by
  refine ⟨fun _ _ h => h, fun a xs q => ?_, fun a xs q => ?_⟩
  · rcases q with ⟨o, q, c1, c2⟩ | q
    · exact .inl ⟨o, by rw [upd_ne (ne_of q h (by intro z; cases z))]; exact q, c1, c2⟩
    · exact .inr q
  · rcases q with ⟨o, q⟩ | q
    · exact .inl ⟨o, by rw [upd_ne (ne_of q h (by intro z; cases z))]; exact q⟩
    · exact .inr q
theorem own_ext {D : Addr} {o : HO} (e : Ext K μ1 H1 μ H) (h : H1 D = none) (q : Le K μ H μ (upd H D o)) : Ext K μ1 H1 μ (upd H D o) := by
  refine ⟨e.pre, fun a z => ?_, fun a u z m => ?_, fun a xs z => q.tup _ _ (e.tup _ _ z), fun a xs z => q.fix _ _ (e.fix _ _ z)⟩
  · by_cases ha : a = D
    · rw [ha]; exact h
    · rw [upd_ne ha] at z; exact e.alive a z
  · rw [upd_ne (ne_of_none z h)]
    exact e.fr a u z m
theorem own_st {D : Addr} {vs us : List V} (hs : StOk K μ H S) (h : H D = some (.lst vs)) (n : D ∉ μ) : StOk K μ (upd H D (.lst us)) S :=
  ⟨hs.len, hs.nd, fun i o a e1 e2 => (hs.ob i o a e1 e2).le (own_le h) (upd_ne fun z => n (by rw [← z]; exact List.mem_of_getElem? e2))⟩
end
theorem Po.map {α β : Type} {K : Fg} {μ : List Addr} {H : Hp} {r : Res α} {g : α → β} {P : β → Sto → List Addr → Hp → Prop} (h : Po K μ H (r.bind fun a S' => .ok (g a) S') P) : Po K μ H r fun a S' μ' H' => P (g a) S' μ' H' := by
  cases r with
  | ok a S' => exact h
  | exc c fs S' => exact h
  | bad => exact h
theorem loopQ_len {C : Sto → Prop} {f : D → Sto → Res (Option D)} : ∀ {ds : List D} {S : Sto} {r : List D} {S' : Sto}, loopQ C f ds S = .ok r S' → r.length ≤ ds.length
  | [], S, r, S', h => by
    unfold loopQ PQ.ask at h
    split at h
    · cases h; exact Nat.le_refl _
    · cases h
  | d :: ds, S, r, S', h => by
    unfold loopQ PQ.ask at h
    split at h
    · obtain ⟨o, S1, _, h⟩ := bind_ok h
      obtain ⟨r', S2, e2, h⟩ := bind_ok h
      have := loopQ_len e2
      cases h
      cases o with
      | none => exact Nat.le_succ_of_le this
      | some x => exact Nat.succ_le_succ this
    · cases h
/-- a comprehension's loop; tt, te: its test, its element, by what they say -/
theorem comp_imp {K : Fg} {own : List Nat} {g : CN} {fi : En → Sto → Res Itv} {tt : TT} {te : TE} {body : En → Sto → Res (Option D)} {σ : Slots} {H : Hp} {Q : VK}
    (hsub : ∀ i, i ∈ g.slots → i ∈ own)
    (hb : ∀ (σ2 : Slots) (H2 : Hp) (μ : List Addr) (ρ : En) (S : Sto) (Dn : Addr) (acc : List V) (R : V → Hp → Prop) (R0 : Hp → Prop), EnvOk K μ H2 ρ σ2 → StOk K μ H2 S →
      Po K μ H2 (body ρ S) (fun o _ μ' H' => match o with | none => R0 H' | some x => ∀ v, Rp K μ' H' x v → R v H') → tt σ2 H2 fun b H3 => if b = true then te σ2 H3 R else R0 H3)
    (h : tQ K (fun ρ S => (fi ρ S).bind fun t S1 => ask (t.items.length ≤ sizeLine) (loopQ t.still (fun d S2 => may (bindN g d (wipeE ρ own) S2) fun ρ' => body ρ' S2) t.items S1)) σ H Q) :
    tLc (tI K fi) (tN K g) tt te own σ H Q := by
  obtain ⟨μ, ρ, S, he, hs, h⟩ := h
  refine ⟨μ, ρ, S, he, hs, h.bind.imp fun t S1 μ1 H1 _ e1 s1 h1 J hJ => ?_⟩
  obtain ⟨hz, h1⟩ := h1.ask
  intro Dn hD
  have hD0 : H Dn = none := e1.alive _ hD
  generalize hf : (fun d S2 => may (bindN g d (wipeE ρ own) S2) fun ρ' => body ρ' S2) = f at h1
  -- what is wanted of the whole list
  let P : List D → List Addr → Hp → Prop := fun ds μ' H' => ∀ a vs, H1 a = none → H' a = some (.lst vs) → a ∉ μ' → RpA K μ' H' ds vs → ds.length ≤ sizeLine → Q (.ref a) H'
  have h1 : Po K μ1 H1 (loopQ t.still f t.items S1) (fun ds _ μ' H' => P ds μ' H') := h1.imp fun ds S' μ' H' _ _ _ k a vs hn => k a vs (e1.alive _ hn)
  refine ⟨fun i m H => m = t.items.length - i ∧ i ≤ t.items.length ∧ ∃ μ S acc ds, Ext K μ1 H1 μ H ∧ StOk K μ H S ∧ H Dn = some (.lst acc) ∧ Dn ∉ μ ∧ RpA K μ H ds acc ∧ ds.length ≤ i ∧ Po K μ1 H1 (loopQ t.still f (t.items.drop i) S) (fun r _ μ' H' => P (ds ++ r) μ' H'),
    ⟨t.items.length, rfl, Nat.zero_le _, μ1, S1, [], [], s1.fresh hD _, s1.freshOk hD _, upd_same, (own_new (ds := []) (vs := []) s1 rfl hD).1, rfl, Nat.le_refl _, h1⟩, ?_⟩
  rintro i m H2 ⟨rfl, hi, μ2, S2, acc, ds, x2, s2, d2, n2, r2, l2, h2⟩
  by_cases hlt : i < t.items.length
  · -- a turn
    rw [List.drop_eq_getElem_cons hlt] at h2
    unfold loopQ at h2
    obtain ⟨hst, h2⟩ := h2.ask
    obtain ⟨hgo, _⟩ := hJ μ2 H2 S2 x2 s2 hst
    obtain ⟨hgo, hy⟩ := hgo i hlt
    refine .inr ⟨hgo, fun H3 => ∃ μ S acc ds, Ext K μ1 H1 μ H3 ∧ StOk K μ H3 S ∧ H3 Dn = some (.lst acc) ∧ Dn ∉ μ ∧ RpA K μ H3 ds acc ∧ ds.length ≤ i + 1 ∧ Po K μ1 H1 (loopQ t.still f (t.items.drop (i + 1)) S) (fun r _ μ' H' => P (ds ++ r) μ' H'),
      fun H3 q => ⟨t.items.length - (i + 1), by omega, rfl, hlt, q⟩, fun v H3 y => ?_⟩
    obtain ⟨rfl, d, ed, rd⟩ := hy v H3 y
    have ed' : t.items[i] = d := by
      rw [List.getElem?_eq_getElem hlt] at ed
      exact Option.some.inj ed
    rw [ed'] at h2
    -- the target
    cases hfd : f d S2 with
    | exc c fs S' => rw [hfd] at h2; exact h2.elim
    | bad => rw [hfd] at h2; exact h2.elim
    | ok o S3 =>
      rw [hfd] at h2
      have hfd' : may (bindN g d (wipeE ρ own) S2) (fun ρ' => body ρ' S2) = .ok o S3 := by rw [← hfd, ← hf]
      obtain ⟨ρ', eb, hbody⟩ := may_ok hfd'
      refine ⟨μ2, wipeE ρ own, S2, d, ρ', (he.mono (e1.trans x2)).wipe own, s2, rd, eb, fun σ' he' hin => ⟨?_, ?_⟩⟩
      · rw [(hin.mono hsub).wipe]
        exact wipe_wipe own σ own fun _ h => h
      · refine hb σ' H3 μ2 ρ' S2 Dn acc _ _ he' s2 ?_
        rw [hbody]
        intro μ4 H4 x4 s4
        have dn4 : H4 Dn = some (.lst acc) := x4.fr _ _ d2 n2
        have nn4 : Dn ∉ μ4 := x4.notin d2 n2
        have x14 : Ext K μ1 H1 μ4 H4 := x2.trans x4
        cases o with
        | none =>
          exact ⟨μ4, S3, acc, ds, x14, s4, dn4, nn4, r2.mono x4, Nat.le_succ_of_le l2, Po.map (g := fun r => r) h2⟩
        | some z =>
          intro w rw_
          refine ⟨acc, dn4, ?_, μ4, S3, acc ++ [w], ds ++ [z], own_ext x14 hD (own_le dn4), own_st s4 dn4 nn4, upd_same, nn4, ?_, ?_, ?_⟩
          · rw [← r2.length]; omega
          · exact RpA.le (own_le dn4) _ _ ((r2.mono x4).append (.cons rw_ .nil))
          · rw [List.length_append]; exact Nat.succ_le_succ l2
          · refine (Po.map (g := fun r => z :: r) h2).imp fun r S' μ' H' _ _ _ k => ?_
            rw [List.append_assoc]
            exact k
  · -- the end
    have e : i = t.items.length := by omega
    subst e
    rw [List.drop_length] at h2
    unfold loopQ at h2
    obtain ⟨hst, h2⟩ := h2.ask
    obtain ⟨_, hstop⟩ := hJ μ2 H2 S2 x2 s2 hst
    refine .inl ⟨hstop, ?_⟩
    have k : P (ds ++ []) μ2 H2 := h2 μ2 H2 x2 s2
    rw [List.append_nil] at k
    exact k Dn acc hD d2 n2 r2 (Nat.le_trans l2 hz)
section
variable {p : Pl} {elt tg iter c : Expr} {ci : CI} {ce : CE} {ct : CT} {g : CN} {scope : Scope} {own : List (Str × Nat)} {pos : Pos}
/-- the scope within -/
def Pl.within (p : Pl) (scope : Scope) : Pl := { p with sc := relS scope p.sc }
/-- a block's target: its names are stored there -/
def storeB (p : Pl) (scope : Scope) (g : CN) : Bool := g.slots.all fun i => match p.N[i]? with
  | some x => (relS scope p.sc).names.lookup x == some .local || scope.names.lookup x == some .cell
  | none => true
def inOwn (own : List (Str × Nat)) (g : CN) : Bool := g.slots.all fun i => (own.map (·.2)).contains i
theorem storeB_ok {X : Cx} {s : Shared} {H : Hp} {cl : List (Str × Addr)} {a : Addr} {fp : List Addr} (h : storeB p scope g = true) : ∀ i ∈ g.slots, ∀ x, (p.within scope).N[i]? = some x → (p.within scope).sc.names.lookup x = some .local ∨ (X.blk s H scope (compEnvC scope cl a X.env) fp).fn x = true := fun i hi x hx => by
  have h1 := List.all_eq_true.mp h i hi
  have hx : p.N[i]? = some x := hx
  rw [hx] at h1
  have h1 : ((relS scope p.sc).names.lookup x == some .local || scope.names.lookup x == some .cell) = true := h1
  rw [Bool.or_eq_true] at h1
  exact h1.imp (fun z => eq_of_beq z) fun z => z
theorem inOwn_ok (h : inOwn own g = true) : ∀ i, i ∈ g.slots → i ∈ own.map (·.2) := fun i hi => by
  have := List.all_eq_true.mp h i hi
  simpa using this
theorem comp_lc (hi : SdI p tg iter ci) (hg : SdN (p.within scope) tg g) (he : SdE (p.within scope) elt ce) (ho : inOwn own g = true) (K : Fg) (C : Orc) {σ : Slots} {H : Hp} {Q : VK} (h : tQ K (evQ C (.comp (own.map (·.2)) g ci ce)) σ H Q) : tLc (tI K (evI C ci)) (tN K g) tYes (tE K (evE C ce)) (own.map (·.2)) σ H Q := by
  refine comp_imp (body := fun ρ' S2 => (evE C ce ρ' S2).bind fun x S3 => .ok (some x) S3) (inOwn_ok ho) (fun σ2 H2 μ ρ S Dn acc R R0 he hs h => ?_) (by
    obtain ⟨μ, ρ, S, he, hs, h⟩ := h
    unfold evQ at h
    exact ⟨μ, ρ, S, he, hs, h⟩)
  show if true = true then tE K (evE C ce) σ2 H2 R else R0 H2
  rw [if_pos rfl]
  exact ⟨μ, ρ, S, he, hs, Po.map (g := some) h⟩
theorem compIf_lc (hi : SdI p tg iter ci) (hg : SdN (p.within scope) tg g) (he : SdE (p.within scope) elt ce) (ho : inOwn own g = true) (K : Fg) (C : Orc) {σ : Slots} {H : Hp} {Q : VK} (h : tQ K (evQ C (.compIf (own.map (·.2)) g ci ct ce)) σ H Q) : tLc (tI K (evI C ci)) (tN K g) (tT K (evT C ct)) (tE K (evE C ce)) (own.map (·.2)) σ H Q := by
  refine comp_imp (body := fun ρ' S2 => (evT C ct ρ' S2).bind fun k S3 => if k = true then (evE C ce ρ' S3).bind fun x S4 => .ok (some x) S4 else .ok none S3) (inOwn_ok ho) (fun σ2 H2 μ ρ S Dn acc R R0 he hs h => ?_) (by
    obtain ⟨μ, ρ, S, he, hs, h⟩ := h
    unfold evQ at h
    exact ⟨μ, ρ, S, he, hs, h⟩)
  refine ⟨μ, ρ, S, he, hs, h.bind.imp fun k S1 μ1 H1 _ e1 s1 h1 => ?_⟩
  cases k with
  | true =>
    rw [if_pos rfl] at h1 ⊢
    exact ⟨μ1, ρ, S1, he.mono e1, s1, Po.map (g := some) h1⟩
  | false =>
    rw [if_neg Bool.false_ne_true] at h1 ⊢
    exact h1.at s1
section
variable (hi : SdI p tg iter ci) (ok : blkC p.N p.sc scope own = true) (hg : SdN (p.within scope) tg g) (hsb : storeB p scope g = true) (ho : inOwn own g = true) (he : SdE (p.within scope) elt ce) (hs : notSet iter = true)
include hi ok hg hsb ho he hs
theorem sq_comp : SdQ p (.ListComp elt [⟨tg, iter, [], 0⟩] scope pos) (.comp (own.map (·.2)) g ci ce) := fun X C gd =>
  (pe_lc (own := own) gd.calm gd.nd (hi X C gd) (blkOk_by (by rw [gd.N, gd.sc]; exact ok)) (fun s H a cl fp => hg _ C (gd.blk s H scope cl a fp) (.inr (storeB_ok hsb))) (fun _ _ _ _ _ => pts_nil) (fun s H a cl fp => he _ C (gd.blk s H scope cl a fp)) (fun x => no_fold hs _ x)).pq fun σ H Q h => comp_lc hi hg he ho _ _ h
theorem sq_compIf (ht : SdT (p.within scope) c ct) : SdQ p (.ListComp elt [⟨tg, iter, [c], 0⟩] scope pos) (.compIf (own.map (·.2)) g ci ct ce) := fun X C gd =>
  (pe_lc (own := own) gd.calm gd.nd (hi X C gd) (blkOk_by (by rw [gd.N, gd.sc]; exact ok)) (fun s H a cl fp => hg _ C (gd.blk s H scope cl a fp) (.inr (storeB_ok hsb))) (fun s H a cl fp => pts_one (ht _ C (gd.blk s H scope cl a fp))) (fun s H a cl fp => he _ C (gd.blk s H scope cl a fp)) (fun x => no_fold hs _ x)).pq fun σ H Q h => compIf_lc hi hg he ho _ _ h
end
end
end PQ

/-! Statements. -/
namespace PQ
open PySem PySem.Spec PyProof.Rows L2
section
variable {K : Fg} {μ μ' μ1 : List Addr} {H H' H1 : Hp} {S : Sto} {σ : Slots} {ρ : En}
/-- what is wanted behind a flow -/
def flP (K : Fg) (D : Ends) (fl : Fl) (μ : List Addr) (H : Hp) : Prop := match fl with
  | .nx ρ => ∀ σ, EnvOk K μ H ρ σ → D.nx σ H
  | .bk ρ => ∀ σ, EnvOk K μ H ρ σ → D.bk σ H
  | .ct ρ => ∀ σ, EnvOk K μ H ρ σ → D.ct σ H
  | .rt d => ∀ v, Rp K μ H d v → D.rt v H
def tS (K : Fg) (f : En → Sto → Res Fl) : TS := fun D σ H => ∃ μ ρ S, EnvOk K μ H ρ σ ∧ StOk K μ H S ∧ Po K μ H (f ρ S) fun fl _ μ' H' => flP K D fl μ' H'
end
def SdS (p : Pl) (s : Stmt) (c : CS) : Prop := ∀ X C, Good X p C → X.fn = (fun _ => true) → PS X s (tS X.K (evS C c))
def SdSs (p : Pl) (s : List Stmt) (c : CSs) : Prop := ∀ X C, Good X p C → X.fn = (fun _ => true) → PSs X s (tS X.K (evSs C c))
section
variable {p : Pl} {a b e o i tg iter : Expr} {ca cb co ci ce : CE} {ct : CT} {ii : CI} {g : CN} {pos : Pos} {s : Stmt} {ss ts : List Stmt} {cs : CS} {css cts : CSs}
theorem ss_nil : SdSs p [] .nil := fun X C gd _ => pss_nil.pq fun D σ H ⟨μ, ρ, S, he, hs, h⟩ => by
  unfold evSs at h
  exact h.at hs σ he
theorem ss_cons (h1 : SdS p s cs) (h2 : SdSs p ss css) : SdSs p (s :: ss) (.cons cs css) := fun X C gd hf => (pss_cons (h1 X C gd hf) (h2 X C gd hf)).pq fun D σ H ⟨μ, ρ, S, he, hs, h⟩ => by
  unfold evSs at h
  refine ⟨μ, ρ, S, he, hs, h.bind.imp fun fl S1 μ1 H1 _ e1 s1 h1 => ?_⟩
  cases fl with
  | nx ρ1 => exact fun σ1 he1 => ⟨μ1, ρ1, S1, he1, s1, h1⟩
  | bk ρ1 => exact h1.at s1
  | ct ρ1 => exact h1.at s1
  | rt d => exact h1.at s1
theorem s_pass : SdS p (.Pass pos) .pass := fun X C gd _ => ps_pass.pq fun D σ H ⟨μ, ρ, S, he, hs, h⟩ => by
  unfold evS at h
  exact h.at hs σ he
theorem s_brk : SdS p (.Break pos) .brk := fun X C gd _ => ps_break.pq fun D σ H ⟨μ, ρ, S, he, hs, h⟩ => by
  unfold evS at h
  exact h.at hs σ he
theorem s_cont : SdS p (.Continue pos) .cont := fun X C gd _ => ps_continue.pq fun D σ H ⟨μ, ρ, S, he, hs, h⟩ => by
  unfold evS at h
  exact h.at hs σ he
theorem s_ret (ha : SdE p a ca) : SdS p (.Return (some a) pos) (.ret ca) := fun X C gd _ => (ps_ret (ha X C gd)).pq fun D σ H ⟨μ, ρ, S, he, hs, h⟩ => by
  unfold evS at h
  exact ⟨μ, ρ, S, he, hs, h.bind.imp fun d S1 μ1 H1 _ e1 s1 h1 v rv => h1.at s1 v rv⟩
theorem s_ex (hn : notComp a = true) (ha : SdE p a ca) : SdS p (.Expr a pos) (.ex ca) := fun X C gd _ => (ps_expr (ha X C gd) (no_swap hn _ _ _)).pq fun D σ H ⟨μ, ρ, S, he, hs, h⟩ => by
  unfold evS at h
  exact ⟨μ, ρ, S, he, hs, h.bind.imp fun d S1 μ1 H1 _ e1 s1 h1 v rv => h1.at s1 σ (he.mono e1)⟩
theorem s_if (ht : SdT p a ct) (h1 : SdSs p ss css) (h2 : SdSs p ts cts) : SdS p (.If a ss ts pos) (.ite ct css cts) := fun X C gd hf => (ps_if (ht X C gd) (h1 X C gd hf) (h2 X C gd hf)).pq fun D σ H ⟨μ, ρ, S, he, hs, h⟩ => by
  unfold evS at h
  refine ⟨μ, ρ, S, he, hs, h.bind.imp fun k S1 μ1 H1 _ e1 s1 h1 => ?_⟩
  cases k with
  | true => rw [if_pos rfl] at h1 ⊢; exact ⟨μ1, ρ, S1, he.mono e1, s1, h1⟩
  | false => rw [if_neg Bool.false_ne_true] at h1 ⊢; exact ⟨μ1, ρ, S1, he.mono e1, s1, h1⟩
/-- x = e -/
theorem asg_imp {K : Fg} {fe : En → Sto → Res D} {D : Ends} {σ : Slots} {H : Hp} (h : tS K (fun ρ S => (fe ρ S).bind fun d S1 => may (bindN g d ρ S1) fun ρ' => .ok (.nx ρ') S1) D σ H) : tAsg (tE K fe) (tN K g) D σ H := by
  obtain ⟨μ, ρ, S, he, hs, h⟩ := h
  refine ⟨μ, ρ, S, he, hs, h.bind.imp fun d S1 μ1 H1 _ e1 s1 h1 v rv => ?_⟩
  obtain ⟨ρ', eb, h1⟩ := h1.may
  exact ⟨μ1, ρ, S1, d, ρ', he.mono e1, s1, rv, eb, fun σ' he' _ => h1.at s1 σ' he'⟩
theorem s_set (hn : notComp a = true) (hg : SdN p tg g) (ha : SdE p a ca) (hw : ∀ env : Env, env.scope = p.sc → swappedStores [tg] a env = pure none) (h1 : ∀ env, (assignEach [tg] env).map (·.2) = [assign tg env]) : SdS p (.Assign [tg] a pos) (.set g ca) := fun X C gd hf =>
  (ps_asg (ha X C gd) (hg X C gd (.inl hf)) (no_swap hn _ _ _) (hw _ gd.sc) (h1 _)).pq fun D σ H h => asg_imp (by
    obtain ⟨μ, ρ, S, he, hs, h⟩ := h
    unfold evS at h
    exact ⟨μ, ρ, S, he, hs, h⟩)
theorem alloc_imp {K : Fg} {fq : En → Sto → Res (List D)} {σ : Slots} {H : Hp} {Q : VK} (h : tE K (fun ρ S => (fq ρ S).bind fun ds S1 => .ok (.ref S1.length) (S1 ++ [.lst ds])) σ H Q) : tQ K fq σ H Q := by
  obtain ⟨μ, ρ, S, he, hs, h⟩ := h
  refine ⟨μ, ρ, S, he, hs, ?_⟩
  have h : Po K μ H ((fq ρ S).bind fun ds S1 => Res.ok (D.ref S1.length) (S1 ++ [Ob.lst ds])) (fun d _ μ' H' => ∀ v, Rp K μ' H' d v → Q v H') := h
  generalize fq ρ S = r at h
  cases r with
  | ok ds S1 =>
    intro μ1 H1 e1 s1 a vs hn ha hm rvs hz
    refine h (μ1 ++ [a]) H1 (e1.take hn) (s1.take hm ha rvs hz) (.ref a) ⟨a, rfl, ?_⟩
    rw [← s1.len, List.getElem?_append_right (Nat.le_refl _), Nat.sub_self]
    rfl
  | exc c fs S' => exact h
  | bad => exact h
/-- x = [..], where the stores are swapped -/
def swapB (sc : Scope) (y : Str) (scope : Scope) (l1 l2 : Nat) : Bool := (match sc.kind with | .function => true | _ => false) && (sc.names.lookup y == some .local) && (l1 == l2) && !(scope.names.any fun (n, k) => n == y && (k == .local || k == .cell))
theorem sw_ok {env : Env} {elt : Expr} {gs : List Comprehension} {scope : Scope} {cpos py : Pos} {y : Str} {l : Nat} (h : swapB env.scope y scope py.line cpos.line = true) : swapsWith (.ListComp elt gs scope cpos) (some (.Name y py)) l env = pure true := by
  unfold swapB at h
  simp only [Bool.and_eq_true] at h
  obtain ⟨⟨⟨h1, h2⟩, h3⟩, h4⟩ := h
  refine sw_true ?_ (eq_of_beq h2) h3 (by simpa using h4)
  revert h1
  cases env.scope.kind <;> intro h1 <;> first | rfl | cases h1
section
variable {elt c : Expr} {y : Str} {py cpos : Pos} {iy : Nat} {scope : Scope} {own : List (Str × Nat)}
variable (hy : p.N[iy]? = some y) (hyl : p.sc.names.lookup y = some .local) (hsw : swapB p.sc y scope py.line cpos.line = true)
variable (hi : SdI p tg iter ii) (ok : blkC p.N p.sc scope own = true) (hg : SdN (p.within scope) tg g) (hsb : storeB p scope g = true) (ho : inOwn own g = true) (he : SdE (p.within scope) elt ce) (hs : notSet iter = true)
include hy hyl hsw hi ok hg hsb ho he hs
theorem s_setLc : SdS p (.Assign [.Name y py] (.ListComp elt [⟨tg, iter, [], 0⟩] scope cpos) pos) (.set (.nm iy) (.alloc (.comp (own.map (·.2)) g ii ce))) := fun X C gd hf =>
  (ps_setLc (own := own) (i := iy) gd.calm gd.nd (by rw [gd.N]; exact hy) (by rw [gd.sc]; exact hyl) (sw_ok (by rw [gd.sc]; exact hsw)) (hi X C gd) (blkOk_by (by rw [gd.N, gd.sc]; exact ok)) (fun s H a cl fp => hg _ C (gd.blk s H scope cl a fp) (.inr (storeB_ok hsb))) (fun _ _ _ _ _ => pts_nil) (fun s H a cl fp => he _ C (gd.blk s H scope cl a fp)) (fun x => no_fold hs _ x)).pq fun D σ H ⟨μ, ρ, S, he', hs', h⟩ => by
    show tLc _ _ _ _ _ σ H fun x H1 => gName iy x σ H1 D.nx
    refine comp_lc hi hg he ho _ C (alloc_imp ⟨μ, ρ, S, he', hs', ?_⟩)
    unfold evS at h
    refine Po.imp (P := fun d S1 μ1 H1 => Po X.K μ1 H1 (may (bindN (.nm iy) d ρ S1) fun ρ' => .ok (.nx ρ') S1) fun fl _ μ' H' => flP X.K D fl μ' H') ?_ fun d S1 μ1 H1 _ e1 s1 h1 v rv => ?_
    · have := h.bind
      unfold evE at this
      exact this
    · exact (h1.at (a := Fl.nx (ρ.set iy (some d))) s1) _ ((he'.mono e1).set rv iy)
theorem s_setLcIf (ht : SdT (p.within scope) c ct) : SdS p (.Assign [.Name y py] (.ListComp elt [⟨tg, iter, [c], 0⟩] scope cpos) pos) (.set (.nm iy) (.alloc (.compIf (own.map (·.2)) g ii ct ce))) := fun X C gd hf =>
  (ps_setLc (own := own) (i := iy) gd.calm gd.nd (by rw [gd.N]; exact hy) (by rw [gd.sc]; exact hyl) (sw_ok (by rw [gd.sc]; exact hsw)) (hi X C gd) (blkOk_by (by rw [gd.N, gd.sc]; exact ok)) (fun s H a cl fp => hg _ C (gd.blk s H scope cl a fp) (.inr (storeB_ok hsb))) (fun s H a cl fp => pts_one (ht _ C (gd.blk s H scope cl a fp))) (fun s H a cl fp => he _ C (gd.blk s H scope cl a fp)) (fun x => no_fold hs _ x)).pq fun D σ H ⟨μ, ρ, S, he', hs', h⟩ => by
    show tLc _ _ _ _ _ σ H fun x H1 => gName iy x σ H1 D.nx
    refine compIf_lc (ct := ct) hi hg he ho _ C (alloc_imp ⟨μ, ρ, S, he', hs', ?_⟩)
    unfold evS at h
    refine Po.imp (P := fun d S1 μ1 H1 => Po X.K μ1 H1 (may (bindN (.nm iy) d ρ S1) fun ρ' => .ok (.nx ρ') S1) fun fl _ μ' H' => flP X.K D fl μ' H') ?_ fun d S1 μ1 H1 _ e1 s1 h1 v rv => ?_
    · have := h.bind
      unfold evE at this
      exact this
    · exact (h1.at (a := Fl.nx (ρ.set iy (some d))) s1) _ ((he'.mono e1).set rv iy)
end
/-- a, b = x, y -/
theorem s_par {x y : Str} {px py pt : Pos} {kt k2 pt2} {j k : Nat} (hi : p.N[j]? = some x) (hj : p.N[k]? = some y) (hij : j ≠ k) (hx : p.sc.names.lookup x = some .local) (hy : p.sc.names.lookup y = some .local) (hs1 : notStar a = true) (hs2 : notStar b = true) (ha : SdE p a ca) (hb : SdE p b cb)
    (hw : ∀ env : Env, env.scope = p.sc → swappedStores [.Tuple [.Name x px, .Name y py] kt pt] (.Tuple [a, b] k2 pt2) env = pure (some [x, y])) :
    SdS p (.Assign [.Tuple [.Name x px, .Name y py] kt pt] (.Tuple [a, b] k2 pt2) pos) (.par j k ca cb) := fun X C gd hf =>
  (ps_par (i := j) (j := k) gd.calm gd.nd (by rw [gd.N]; exact hi) (by rw [gd.N]; exact hj) hij (by rw [gd.sc]; exact hx) (by rw [gd.sc]; exact hy) (pa_cons (ha X C gd) (pa_cons (hb X C gd) pa_nil (star_cons hs2 [] _)) (star_cons hs1 [b] _)) (hw _ gd.sc) rfl).pq fun D σ H ⟨μ, ρ, S, he, hs, h⟩ => by
    unfold evS at h
    refine ⟨μ, ρ, S, he, hs, h.bind.imp fun d S1 μ1 H1 _ e1 s1 h1 v rv => ?_⟩
    refine ⟨μ1, ρ, S1, he.mono e1, s1, h1.bind.imp fun d2 S2 μ2 H2 _ e2 s2 h2 w rw_ => ?_⟩
    exact ⟨v, w, rfl, h2.at s2 _ (((he.mono (e1.trans e2)).set (rv.mono e2) j).set rw_ k)⟩
/-- o[i] = v of a dict -/
def rSetK : V → V → V → Hp → (Hp → Prop) → Prop := fun o i v H Q => ∃ a H', o = .ref a ∧ DPut H a i v H' ∧ Q H'
theorem set_dic {X : Cx} (hu : X.A.units + 1 < cLine) : PSet X rSetK := by
  intro pins s σ H o i v ov iv u Q I ro ri rv h
  obtain ⟨a, H', rfl, g, q⟩ := h
  cases ro
  exact d_setItem hu I g ri rv fun s' I' => ⟨H', I', q⟩
def rSet2 : V → V → V → Hp → (Hp → Prop) → Prop := fun o i v H Q => rSetK o i v H Q ∨ rSetL o i v H Q
theorem set_any {X : Cx} (hu : X.A.units + 1 < cLine) : PSet X rSet2 := by
  intro pins s σ H o i v ov iv u Q I ro ri rv h
  rcases h with h | h
  · exact set_dic hu pins s σ H o i v ov iv u Q I ro ri rv h
  · exact set_list pins s σ H o i v ov iv u Q I ro ri rv h
/-- o[i] = e -/
theorem set_rp {K : Fg} {μ : List Addr} {H : Hp} {S : Sto} {x y d : D} {v u w : V} {Q : Hp → Prop} (hs : StOk K μ H S) (rx : Rp K μ H x v) (ry : Rp K μ H y u) (rd : Rp K μ H d w) (h : Po K μ H (setD x y d S) fun _ _ μ' H' => Ext K μ H μ' H' → Q H') : rSet2 v u w H Q := by
  unfold setD at h
  split at h
  · obtain ⟨n, ks, a, vs, rfl, rfl, ei, ea, k1, k2, k3, k4, h⟩ := Po.withD hs rx h
    obtain ⟨k, ek, h⟩ := h.may
    obtain ⟨z, h⟩ := h.ite
    refine .inl ⟨a, _, rfl, ?_, h _ _ (hs.putE _ ea) (hs.putO ea (u := .dK (putK vs k w)) ⟨_, upd_same, (k2.put rd k4).mono (hs.putE _ ea), ?_, k4.put k d⟩) (hs.putE _ ea)⟩
    · rw [key_rp ry ek]
      exact DPut.k k1 (by rw [← k2.length]; exact z)
    · have := pD_length ks k d
      omega
  · obtain ⟨n, ds, a, vs, rfl, rfl, ei, ea, k1, k2, k3, h⟩ := Po.withL hs rx h
    cases y with
    | int j =>
      obtain ⟨m, em, h⟩ := Po.may (show Po K μ H (may (ixN ds.length j) fun m => Res.ok () (S.set n (Ob.lst (ds.set m d)))) _ from h)
      obtain ⟨x1, x2⟩ := hs.put ea (k2.set rd m) (by rw [List.length_set]; exact k3)
      exact .inr ⟨a, vs, j, m, rfl, ry, k1, by rw [← k2.length]; exact em, h _ _ x1 x2 x1⟩
    | _ => exact (show False from h).elim
theorem s_sub {sp : Pos} (hn : notSlice i = true) (hc : notComp e = true) (ho : SdE p o co) (hi : SdE p i ci) (he' : SdE p e ce) : SdS p (.Assign [.Subscript o i sp] e pos) (.sub co ci ce) := fun X C gd hf =>
  (ps_asg (he' X C gd) (pg_sub (ho X C gd) (hi X C gd) (set_any (by have := gd.un; omega)) (fun v => sub_store hn _ v)) (by rw [show swapsWithSole [.Subscript o i sp] e pos.line X.env = swapsWith e (some (.Subscript o i sp)) pos.line X.env from by unfold swapsWithSole; rfl]; exact no_swap hc _ _ _) (by cases e <;> rfl) rfl).pq fun D σ H ⟨μ, ρ, S, he, hs, h⟩ => by
    unfold evS at h
    refine ⟨μ, ρ, S, he, hs, h.bind.imp fun d S1 μ1 H1 _ e1 s1 h1 w rd => ?_⟩
    refine ⟨μ1, ρ, S1, he.mono e1, s1, h1.bind.imp fun x S2 μ2 H2 _ e2 s2 h2 v rx => ?_⟩
    refine ⟨μ2, ρ, S2, he.mono (e1.trans e2), s2, h2.bind.imp fun y S3 μ3 H3 _ e3 s3 h3 u ry => ?_⟩
    exact set_rp s3 (rx.mono e3) ry ((rd.mono e2).mono e3) (h3.bind.imp fun _ S4 μ4 H4 _ e4 s4 h4 _ => h4.at s4 σ ((he.mono (e1.trans (e2.trans e3))).mono e4))
/-- an operation in place, by values -/
def ipR : Bop → TIp
  | .add => fun x y H Q => rI0 (fun i j => .int (i + j)) x y H Q ∨ ∃ i j, x = .str i ∧ y = .str j ∧ i.length + j.length ≤ sizeLine ∧ Q (.str (i ++ j)) H
  | .sub => rI0 fun i j => .int (i - j)
  | _ => fun _ _ _ _ => False
def bopOp : Bop → Operator
  | .add => .Add | .sub => .Sub | .mul => .Mult | .fdiv => .FloorDiv | .mod => .Mod | .pow => .Pow | .shl => .LShift | .shr => .RShift | .band => .BitAnd | .bor => .BitOr | .bxor => .BitXor
theorem ip_ok (f : Bop) (X : Cx) : PIp X (bopOp f) (ipR f) := by
  cases f with
  | add => exact iop_add.or iop_add_str
  | sub => exact iop_sub
  | _ => exact fun _ _ _ _ _ _ _ _ _ _ _ _ h => h.elim
theorem aug_rp {f : Bop} {K : Fg} {μ : List Addr} {H : Hp} {S : Sto} {x y : D} {v u : V} {Q : VK} (hs : StOk K μ H S) (rx : Rp K μ H x v) (ry : Rp K μ H y u) (h : Po K μ H (augD f x y S) fun d _ μ' H' => ∀ v, Rp K μ' H' d v → Q v H') : ipR f v u H Q := by
  cases f with
  | add =>
    cases x with
    | int i => cases y with
      | int j => exact .inl ⟨i, j, rx, ry, Po.at (show Po K μ H (Res.ok (D.int (i + j)) S) _ from h) hs _ rfl⟩
      | _ => exact (show False from h).elim
    | str i => cases y with
      | str j =>
        obtain ⟨z, h⟩ := Po.ite (show Po K μ H (if i.length + j.length ≤ sizeLine then Res.ok (D.str (i ++ j)) S else Res.bad) _ from h)
        exact .inr ⟨i, j, rx, ry, z, Po.at h hs _ rfl⟩
      | _ => exact (show False from h).elim
    | _ => exact (show False from h).elim
  | sub =>
    cases x with
    | int i => cases y with
      | int j => exact ⟨i, j, rx, ry, Po.at (show Po K μ H (Res.ok (D.int (i - j)) S) _ from h) hs _ rfl⟩
      | _ => exact (show False from h).elim
    | _ => exact (show False from h).elim
  | _ => exact (show False from by cases x <;> cases y <;> exact h).elim
theorem s_aug {x : Str} {j : Nat} {f : Bop} {px : Pos} (hx : NameAt p x j) (ha : SdE p a ca) : SdS p (.AugAssign (.Name x px) (bopOp f) a pos) (.aug j f ca) := fun X C gd hf =>
  (ps_aug (i := j) gd.nd (by rw [gd.N]; exact hx.1) (by rw [gd.sc]; exact hx.2) (ha X C gd) (ip_ok f X) (.inl (by rw [hf]))).pq fun D σ H ⟨μ, ρ, S, he, hs, h⟩ => by
    unfold evS at h
    obtain ⟨d, ed, h⟩ := h.may
    have e2 : ρ[j]? = some (some d) := by
      cases q : ρ[j]? with
      | none => rw [q] at ed; cases ed
      | some o => rw [q] at ed; exact congrArg some ed
    obtain ⟨v, q1, q2⟩ := he.2 j d e2
    refine ⟨v, q1, μ, ρ, S, he, hs, h.bind.imp fun y S1 μ1 H1 _ e1 s1 h1 u ru => ?_⟩
    exact aug_rp s1 (q2.mono e1) ru (h1.bind.imp fun z S2 μ2 H2 _ e2 s2 h2 w rw_ => h2.at s2 _ (((he.mono e1).mono e2).set rw_ j))
/-- o[i] of a list, by values -/
theorem get_list {X : Cx} : PGet X (rIxL X.K) := by
  intro pins s σ H x y v u Q I rx ry h
  obtain ⟨p, xs, i, z, rfl, rfl, hq, he, q⟩ := h
  cases rx
  obtain ⟨t, rfl⟩ := ry
  obtain ⟨its, r, pl, hz⟩ := I.list hq
  obtain ⟨j, h1, h2, h3, h4, h5⟩ := atI_get he
  obtain ⟨w, ew, rw'⟩ := r.get h2
  have hl := r.length
  have hn := line63
  have fin : EP X pins σ Q w s := ⟨z, H, I, rw', q⟩
  by_cases h0 : 0 ≤ i
  · have hj : i.toNat = j := by
      rw [seqIndex_of h0 h5] at h1
      exact Option.some.inj h1
    exact wpAny_getItem_list pl.isList h0 (by omega) (by rw [hj]; simpa using ew) fin
  · have hj : (i + (its.toArray.size : Int)).toNat = j := by
      rw [seqIndex_neg (by omega) h4] at h1
      rw [List.size_toArray, ← hl]
      exact Option.some.inj h1
    exact wpAny_getItem_list_neg pl.isList (by omega) (by rw [List.size_toArray] <;> omega) (by omega) (by rw [hj]; simpa using ew) fin
/-- o[i] of a list or a dict, by values -/
def rGet2 (K : Fg) : V → V → Hp → VK → Prop := fun x y H Q => rIxD x y H Q ∨ rIxL K x y H Q
theorem get_any {X : Cx} (hu : X.A.units + 1 < cLine) : PGet X (rGet2 X.K) := by
  intro pins s σ H x y v u Q I rx ry h
  rcases h with h | h
  · obtain ⟨a, w, rfl, g, q⟩ := h
    cases rx
    exact d_getItem hu I g ry fun w' s' I' rw' => ⟨w, H, I', rw', q⟩
  · exact get_list pins s σ H x y v u Q I rx ry h
theorem get_rp {K : Fg} {μ : List Addr} {H : Hp} {S : Sto} {x y : D} {v u : V} {Q : VK} (hs : StOk K μ H S) (rx : Rp K μ H x v) (ry : Rp K μ H y u) (h : Po K μ H (getD x y S) fun d _ μ' H' => ∀ v, Rp K μ' H' d v → Q v H') : rGet2 K v u H Q := by
  cases x with
  | ref n =>
    cases y with
    | int i =>
      have h : Po K μ H (match S[n]? with
        | some (Ob.lst ds) => may (atI ds i) fun d => Res.ok d S
        | some (Ob.dic ks) => may (gD ks (.inl i)) fun d => Res.ok d S
        | none => Res.bad) _ := h
      cases ei : S[n]? with
      | none => rw [ei] at h; exact (show False from h).elim
      | some o =>
        rw [ei] at h
        cases o with
        | lst ds =>
          obtain ⟨d, e, h⟩ := Po.may h
          obtain ⟨a, vs, rfl, _, h1, h2, _⟩ := rp_ref rx hs ei
          obtain ⟨w, e1, r1⟩ := rp_at h2 e
          exact .inr ⟨a, vs, i, w, rfl, ry, .of h1, e1, h.at hs w r1⟩
        | dic ks =>
          obtain ⟨d, e, h⟩ := Po.may h
          obtain ⟨a, vs, rfl, _, h1, h2, _⟩ := rp_refD rx hs ei
          obtain ⟨w, e1, r1⟩ := h2.getS e
          refine .inl ⟨a, w, rfl, ?_, h.at hs w r1⟩
          rw [show u = kV (.inl i) from ry, ← e1]
          exact DGet.k h1
    | str z =>
      have h : Po K μ H (match S[n]? with
        | some (Ob.dic ks) => may (gD ks (.inr z)) fun d => Res.ok d S
        | _ => Res.bad) _ := h
      cases ei : S[n]? with
      | none => rw [ei] at h; exact (show False from h).elim
      | some o =>
        rw [ei] at h
        cases o with
        | lst ds => exact (show False from h).elim
        | dic ks =>
          obtain ⟨d, e, h⟩ := Po.may h
          obtain ⟨a, vs, rfl, _, h1, h2, _⟩ := rp_refD rx hs ei
          obtain ⟨w, e1, r1⟩ := h2.getS e
          refine .inl ⟨a, w, rfl, ?_, h.at hs w r1⟩
          rw [show u = kV (.inr z) from ry, ← e1]
          exact DGet.k h1
    | _ => exact (show False from h).elim
  | _ => exact (show False from h).elim
theorem s_augS {f : Bop} {sp : Pos} (hn : notSlice i = true) (ho : SdE p o co) (hi : SdE p i ci) (he' : SdE p e ce) : SdS p (.AugAssign (.Subscript o i sp) (bopOp f) e pos) (.augS co ci f ce) := fun X C gd hf =>
  (ps_augS (ho X C gd) (hi X C gd) (get_any (by have := gd.un; omega)) (he' X C gd) (ip_ok f X) (set_any (by have := gd.un; omega)) (fun ov iv new => aug_store hn ov iv new)).pq fun D σ H ⟨μ, ρ, S, he, hs, h⟩ => by
    unfold evS at h
    refine ⟨μ, ρ, S, he, hs, h.bind.imp fun x S1 μ1 H1 _ e1 s1 h1 v rx => ?_⟩
    refine ⟨μ1, ρ, S1, he.mono e1, s1, h1.bind.imp fun y S2 μ2 H2 _ e2 s2 h2 u ry => ?_⟩
    refine get_rp s2 (rx.mono e2) ry (h2.bind.imp fun x0 S3 μ3 H3 _ e3 s3 h3 w rw_ => ?_)
    refine ⟨μ3, ρ, S3, he.mono (e1.trans (e2.trans e3)), s3, h3.bind.imp fun z S4 μ4 H4 _ e4 s4 h4 t rt => ?_⟩
    refine aug_rp s4 (rw_.mono e4) rt (h4.bind.imp fun z2 S5 μ5 H5 _ e5 s5 h5 t2 rt2 => ?_)
    refine set_rp s5 ((((rx.mono e2).mono e3).mono e4).mono e5) (((ry.mono e3).mono e4).mono e5) rt2 (h5.bind.imp fun _ S6 μ6 H6 _ e6 s6 h6 _ => ?_)
    exact h6.at s6 σ ((he.mono (e1.trans (e2.trans (e3.trans (e4.trans e5))))).mono e6)
/-- what is never reached -/
theorem s_raise {e1 e2 : Option Expr} : SdS p (.Raise e1 e2 pos) .raise := fun X C gd hf => by
  refine ⟨fun pins s σ H D I h => ?_⟩
  obtain ⟨μ, ρ, S, he, hs, h⟩ := h
  unfold evS at h
  exact (show False from h).elim
/-- for -/
theorem s_for (hsn : notSet iter = true) (hi : SdI p tg iter ii) (hg : SdN p tg g) (hb : SdSs p ss css) : SdS p (.For tg iter ss [] pos) (.for g ii css) := fun X C gd hf =>
  (ps_for gd.own gd.calm (hi X C gd) (hg X C gd (.inl hf)) (hb X C gd hf) (fun x => no_fold hsn _ x)).pq fun D σ H ⟨μ, ρ, S, he, hs, h⟩ => by
    unfold evS at h
    refine ⟨μ, ρ, S, he, hs, h.bind.imp fun t S1 μ1 H1 _ e1 s1 h1 J hJ => ?_⟩
    generalize hbf : (fun d ρ1 S2 => may (bindN g d ρ1 S2) fun ρ2 => evSs C css ρ2 S2) = f at h1
    refine ⟨fun i m σ H => m = t.items.length - i ∧ i ≤ t.items.length ∧ ∃ μ ρ S, Ext X.K μ1 H1 μ H ∧ EnvOk X.K μ H ρ σ ∧ StOk X.K μ H S ∧ Po X.K μ H (loopS t.still f (t.items.drop i) ρ S) fun fl _ μ' H' => flP X.K D fl μ' H',
      ⟨t.items.length, rfl, Nat.zero_le _, μ1, ρ, S1, .refl, he.mono e1, s1, h1⟩, ?_⟩
    rintro i m σ2 H2 ⟨rfl, hi, μ2, ρ2, S2, x2, he2, s2, h2⟩
    by_cases hlt : i < t.items.length
    · rw [List.drop_eq_getElem_cons hlt] at h2
      unfold loopS at h2
      obtain ⟨hst, h2⟩ := h2.ask
      obtain ⟨hgo, _⟩ := hJ μ2 H2 S2 x2 s2 hst
      obtain ⟨hgo, hy⟩ := hgo i hlt
      refine .inr ⟨hgo, fun σ3 H3 => ∃ μ ρ S, Ext X.K μ1 H1 μ H3 ∧ EnvOk X.K μ H3 ρ σ3 ∧ StOk X.K μ H3 S ∧ Po X.K μ H3 (loopS t.still f (t.items.drop (i + 1)) ρ S) fun fl _ μ' H' => flP X.K D fl μ' H',
        fun σ3 H3 q => ⟨t.items.length - (i + 1), by omega, rfl, hlt, q⟩, fun v H3 y => ?_⟩
      obtain ⟨rfl, d, ed, rd⟩ := hy v H3 y
      have ed' : t.items[i] = d := by
        rw [List.getElem?_eq_getElem hlt] at ed
        exact Option.some.inj ed
      rw [ed', ← hbf] at h2
      obtain ⟨ρ3, eb, h3⟩ := Po.may (Po.bind h2)
      refine ⟨μ2, ρ2, S2, d, ρ3, he2, s2, rd, eb, fun σ' he' _ => ⟨μ2, ρ3, S2, he', s2, h3.imp fun fl S4 μ4 H4 _ e4 s4 h4 => ?_⟩⟩
      rw [hbf] at h4
      cases fl with
      | nx ρ4 => exact fun σ4 he4 => ⟨μ4, ρ4, S4, x2.trans e4, he4, s4, h4⟩
      | ct ρ4 => exact fun σ4 he4 => ⟨μ4, ρ4, S4, x2.trans e4, he4, s4, h4⟩
      | bk ρ4 => exact h4.at s4
      | rt d => exact h4.at s4
    · have e : i = t.items.length := by omega
      subst e
      rw [List.drop_length] at h2
      unfold loopS at h2
      obtain ⟨hst, h2⟩ := h2.ask
      exact .inl ⟨(hJ μ2 H2 S2 x2 s2 hst).2, h2.at s2 σ2 he2⟩
/-- while -/
theorem s_while (ht : SdT p a ct) (hb : SdSs p ss css) : SdS p (.While a ss [] pos) (.while ct css) := fun X C gd hf =>
  (ps_while gd.own (ht X C gd) (hb X C gd hf)).pq fun D σ H ⟨μ, ρ, S, he, hs, h⟩ => by
    unfold evS at h
    refine ⟨fun m σ H => ∃ μ ρ S, EnvOk X.K μ H ρ σ ∧ StOk X.K μ H S ∧ Po X.K μ H (whileS (evT C ct) (evSs C css) m ρ S) fun fl _ μ' H' => flP X.K D fl μ' H', ⟨turns, μ, ρ, S, he, hs, h⟩, ?_⟩
    rintro m σ2 H2 ⟨μ2, ρ2, S2, he2, s2, h2⟩
    cases m with
    | zero => exact h2.elim
    | succ m =>
      unfold whileS at h2
      refine ⟨μ2, ρ2, S2, he2, s2, h2.bind.imp fun k S3 μ3 H3 _ e3 s3 h3 => ?_⟩
      cases k with
      | true =>
        rw [if_pos rfl] at h3 ⊢
        refine ⟨fun σ4 H4 => ∃ μ ρ S, EnvOk X.K μ H4 ρ σ4 ∧ StOk X.K μ H4 S ∧ Po X.K μ H4 (whileS (evT C ct) (evSs C css) m ρ S) fun fl _ μ' H' => flP X.K D fl μ' H', fun σ4 H4 q => ⟨m, Nat.lt_succ_self m, q⟩, ?_⟩
        refine ⟨μ3, ρ2, S3, he2.mono e3, s3, h3.bind.imp fun fl S4 μ4 H4 _ e4 s4 h4 => ?_⟩
        cases fl with
        | nx ρ4 => exact fun σ4 he4 => ⟨μ4, ρ4, S4, he4, s4, h4⟩
        | ct ρ4 => exact fun σ4 he4 => ⟨μ4, ρ4, S4, he4, s4, h4⟩
        | bk ρ4 => exact h4.at s4
        | rt d => exact h4.at s4
      | false =>
        rw [if_neg Bool.false_ne_true] at h3 ⊢
        exact h3.at s3 σ2 (he2.mono e3)
end
end PQ

/-! From the text to the language, with the proof. -/
namespace PQ
open PySem PySem.Spec PyProof.Rows L2
section
variable {p : Pl} {a b e o i tg iter : Expr} {ca cb co ci ce : CE} {ct : CT} {ii : CI} {g : CN} {pos : Pos}
theorem no_swap2 (t : Expr) (ht : ∀ x q, t ≠ .Name x q) (l : Nat) (env : Env) : swapsWith e (some t) l env = pure false := by
  cases e <;> first | rfl | (cases t <;> first | rfl | exact absurd rfl (ht _ _))
theorem s_sub2 {sp : Pos} (hn : notSlice i = true) (ho : SdE p o co) (hi : SdE p i ci) (he' : SdE p e ce) : SdS p (.Assign [.Subscript o i sp] e pos) (.sub co ci ce) := fun X C gd hf =>
  (ps_asg (he' X C gd) (pg_sub (ho X C gd) (hi X C gd) (set_any (by have := gd.un; omega)) (fun v => sub_store hn _ v)) (by rw [show swapsWithSole [.Subscript o i sp] e pos.line X.env = swapsWith e (some (.Subscript o i sp)) pos.line X.env from by unfold swapsWithSole; rfl]; exact no_swap2 _ (fun x q z => by cases z) _ _) (by cases e <;> rfl) rfl).pq fun D σ H ⟨μ, ρ, S, he, hs, h⟩ => by
    unfold evS at h
    refine ⟨μ, ρ, S, he, hs, h.bind.imp fun d S1 μ1 H1 _ e1 s1 h1 w rd => ?_⟩
    refine ⟨μ1, ρ, S1, he.mono e1, s1, h1.bind.imp fun x S2 μ2 H2 _ e2 s2 h2 v rx => ?_⟩
    refine ⟨μ2, ρ, S2, he.mono (e1.trans e2), s2, h2.bind.imp fun y S3 μ3 H3 _ e3 s3 h3 u ry => ?_⟩
    exact set_rp s3 (rx.mono e3) ry ((rd.mono e2).mono e3) (h3.bind.imp fun _ S4 μ4 H4 _ e4 s4 h4 _ => h4.at s4 σ ((he.mono (e1.trans (e2.trans e3))).mono e4))
/-- (a, b) = .. -/
theorem s_setT {es : List Expr} {is : List Nat} {k : Nat} {q : Pos} (hg : NamesAt p es is) (ha : SdE p a ca) (hw : ∀ env : Env, env.scope = p.sc → swappedStores [.Tuple es k q] a env = pure none) : SdS p (.Assign [.Tuple es k q] a pos) (.set (.tup is) ca) := fun X C gd hf =>
  (ps_asg (ha X C gd) (sn_tup hg X C gd (.inl hf)) (by rw [show swapsWithSole [.Tuple es k q] a pos.line X.env = swapsWith a (some (.Tuple es k q)) pos.line X.env from by unfold swapsWithSole; rfl]; exact no_swap2 _ (fun x q z => by cases z) _ _) (hw _ gd.sc) rfl).pq fun D σ H h => asg_imp (by
    obtain ⟨μ, ρ, S, he, hs, h⟩ := h
    unfold evS at h
    exact ⟨μ, ρ, S, he, hs, h⟩)
/-- x = e, the stores in order -/
theorem s_setN {x : Str} {q : Pos} {j : Nat} (hx : NameAt p x j) (ha : SdE p a ca) (hsw : ∀ env : Env, env.scope = p.sc → swapsWith a (some (.Name x q)) pos.line env = pure false) : SdS p (.Assign [.Name x q] a pos) (.set (.nm j) ca) := fun X C gd hf =>
  (ps_asg (ha X C gd) (sn_nm hx X C gd (.inl hf)) (by rw [show swapsWithSole [.Name x q] a pos.line X.env = swapsWith a (some (.Name x q)) pos.line X.env from by unfold swapsWithSole; rfl]; exact hsw _ gd.sc) (by cases a <;> rfl) rfl).pq fun D σ H h => asg_imp (by
    obtain ⟨μ, ρ, S, he, hs, h⟩ := h
    unfold evS at h
    exact ⟨μ, ρ, S, he, hs, h⟩)
end
def bkS (sc : Scope) : ScopeKind := if sc.kind.isAnnotationScope then .function else sc.kind
def swB (sc : Scope) (value : Expr) (t : Str) (tl : Nat) : Bool := match value with
  | .ListComp _ _ s q => bkS sc == .function && sc.names.lookup t == some .local && tl == q.line && !(s.names.any fun (n, k) => n == t && (k == .local || k == .cell))
  | .SetComp _ _ s q => bkS sc == .function && sc.names.lookup t == some .local && tl == q.line && !(s.names.any fun (n, k) => n == t && (k == .local || k == .cell))
  | .DictComp _ _ _ s q => bkS sc == .function && sc.names.lookup t == some .local && tl == q.line && !(s.names.any fun (n, k) => n == t && (k == .local || k == .cell))
  | _ => false
theorem swB_ok {sc : Scope} {e : Expr} {t : Str} {q : Pos} {l : Nat} (h : swB sc e t q.line = false) (env : Env) (he : env.scope = sc) : swapsWith e (some (.Name t q)) l env = pure false := by
  subst he
  cases e <;> first
    | rfl
    | (show pure (env.blockKind == .function && env.kindOf t == some .local && q.line == _ && _) = _
       exact congrArg pure h)
def swpS (sc : Scope) (ts vs : List Expr) : Option (Option (List Str)) :=
  if (!(ts.length == 2 || ts.length == 3) || vs.length != ts.length || bkS sc != .function) = true then some none
  else if (vs.any fun | .Starred .. => true | _ => false) = true then some none
  else if ((ts.filterMap fun
    | .Name id pos => if (sc.names.lookup id == some .local && pos.line == (ts.head?.map (·.pos.line)).getD 0) = true then some id else none
    | _ => none).length != ts.length || (ts.filterMap fun
    | .Name id pos => if (sc.names.lookup id == some .local && pos.line == (ts.head?.map (·.pos.line)).getD 0) = true then some id else none
    | _ => none).eraseDups.length != (ts.filterMap fun
    | .Name id pos => if (sc.names.lookup id == some .local && pos.line == (ts.head?.map (·.pos.line)).getD 0) = true then some id else none
    | _ => none).length) = true then some none
  else if vs.all (foldedForSure 8) = true then some none
  else if vs.all (constantsAlone 8) = true then none
  else some (some (ts.filterMap fun
    | .Name id pos => if (sc.names.lookup id == some .local && pos.line == (ts.head?.map (·.pos.line)).getD 0) = true then some id else none
    | _ => none))
theorem swpS_ok {sc : Scope} {ts vs : List Expr} {r : Option (List Str)} {k k2 : Nat} {q q2 : Pos} (h : swpS sc ts vs = some r) (env : Env) (he : env.scope = sc) : swappedStores [.Tuple ts k q] (.Tuple vs k2 q2) env = pure r := by
  subst he
  unfold swpS at h
  unfold swappedStores
  show (if (!(ts.length == 2 || ts.length == 3) || vs.length != ts.length || env.blockKind != .function) = true then pure none else _) = _
  split at h
  · rename_i h1
    rw [if_pos (show (!(ts.length == 2 || ts.length == 3) || vs.length != ts.length || env.blockKind != .function) = true from h1)]
    exact congrArg pure (Option.some.inj h)
  · rename_i h1
    rw [if_neg (show ¬ (!(ts.length == 2 || ts.length == 3) || vs.length != ts.length || env.blockKind != .function) = true from h1)]
    show (if (vs.any fun | .Starred .. => true | _ => false) = true then pure none else _) = _
    split at h
    · rename_i h2
      rw [if_pos h2]
      exact congrArg pure (Option.some.inj h)
    · rename_i h2
      rw [if_neg h2]
      split at h
      · rename_i h3
        refine (if_pos ?_).trans (congrArg pure (Option.some.inj h))
        exact h3
      · rename_i h3
        refine (if_neg ?_).trans ?_
        · exact h3
        · split at h
          · rename_i h4
            exact (if_pos h4).trans (congrArg pure (Option.some.inj h))
          · rename_i h4
            refine (if_neg h4).trans ?_
            split at h
            · cases h
            · rename_i h5
              refine (if_neg h5).trans ?_
              exact congrArg pure (Option.some.inj h)
end PQ

/-! The compiler. -/
namespace PQ
open PySem PySem.Spec PyProof.Rows L2
/-- a name's place -/
def idxN (p : Pl) (x : Str) : Option { i : Nat // p.N[i]? = some x } := match p.N.findIdx? (· == x) with
  | some i => if h : p.N[i]? = some x then some ⟨i, h⟩ else none
  | none => none
def nameAt (p : Pl) (x : Str) : Option { i : Nat // NameAt p x i } := match idxN p x with
  | some ⟨i, h⟩ => if h1 : p.sc.names.lookup x = some .local then some ⟨i, h, .inl h1⟩ else if h2 : p.sc.names.lookup x = some .cell then some ⟨i, h, .inr h2⟩ else none
  | none => none
def namesAt (p : Pl) : (es : List Expr) → Option { is : List Nat // NamesAt p es is }
  | [] => some ⟨[], .nil⟩
  | .Name x q :: es => match nameAt p x, namesAt p es with
    | some ⟨i, h⟩, some ⟨is, hs⟩ => some ⟨i :: is, .cons h hs⟩
    | _, _ => none
  | _ => none
def cN (p : Pl) : (tg : Expr) → Option { g : CN // SdN p tg g }
  | .Name x q => match nameAt p x with
    | some ⟨i, h⟩ => some ⟨_, sn_nm h⟩
    | none => none
  | .Tuple es k q => match namesAt p es with
    | some ⟨is, h⟩ => some ⟨_, sn_tup h⟩
    | none => none
  | _ => none
/-- a built-in's name here -/
def isB_ (p : Pl) (x : Str) : Option (PLift (x ∈ p.B ∧ p.sc.names.lookup x = some .globalImplicit)) := if h : x ∈ p.B ∧ p.sc.names.lookup x = some .globalImplicit then some ⟨h⟩ else none
/-- a def's name here -/
def isF_ (p : Pl) (x : Str) : Option { i : Nat // p.T[i]? = some x ∧ p.sc.names.lookup x = some .globalImplicit ∧ (x == ("__debug__" : Str)) = false } := match p.T.findIdx? (· == x) with
  | some i => if h : p.T[i]? = some x ∧ p.sc.names.lookup x = some .globalImplicit ∧ (x == ("__debug__" : Str)) = false then some ⟨i, h⟩ else none
  | none => none
def copOf : (op : CmpOp) → Option { o : Cop // copOp o = op }
  | .Eq => some ⟨.eq, rfl⟩
  | .NotEq => some ⟨.ne, rfl⟩
  | .Lt => some ⟨.lt, rfl⟩
  | .LtE => some ⟨.le, rfl⟩
  | .Gt => some ⟨.gt, rfl⟩
  | .GtE => some ⟨.ge, rfl⟩
  | _ => none
def bopOf : (op : Operator) → Option { o : Bop // bopOp o = op }
  | .Add => some ⟨.add, rfl⟩
  | .Sub => some ⟨.sub, rfl⟩
  | _ => none
/-- a list by its look -/
def looksList : Nat → Expr → Bool
  | _, .List .. => true
  | _, .ListComp .. => true
  | _, .Call (.Name f _) _ _ _ => f == ("list" : Str) || f == ("sorted" : Str)
  | n + 1, .BinOp a .Add b _ => looksList n a || looksList n b
  | _, .Subscript _ (.Slice none none (some _) _) _ => true
  | _, _ => false
def ownOf (p : Pl) (scope : Scope) : List (Str × Nat) := scope.names.filterMap fun (x, k) => match k with
  | .local => (p.N.findIdx? (· == x)).map fun i => (x, i)
  | .cell => (p.N.findIdx? (· == x)).map fun i => (x, i)
  | _ => none
def glbIn (x : Str) : (l : List (Str × Gv)) → Option { g : Gv // (x, g) ∈ l }
  | [] => none
  | (y, g) :: r => if h : y = x then some ⟨g, by subst h; exact List.mem_cons_self⟩ else (match glbIn x r with
    | some ⟨g, h⟩ => some ⟨g, List.mem_cons_of_mem _ h⟩
    | none => none)
abbrev GlbOk (p : Pl) (x : Str) : Prop := p.sc.names.lookup x = some .globalImplicit ∧ (x == ("__debug__" : Str)) = false
abbrev VisOk (p : Pl) (x : Str) : Prop := (p.sc.names.lookup x = some .local ∨ p.sc.names.lookup x = some .cell ∨ p.sc.names.lookup x = some .free) ∧ (x == ("__debug__" : Str)) = false ∧ (x == ("__classdict__" : Str)) = false
mutual
def cE : Nat → (p : Pl) → (e : Expr) → Option { c : CE // SdE p e c }
  | 0, _, _ => none
  | n + 1, p, e => match cQ n p e with
    | some ⟨q, h⟩ => some ⟨_, sd_alloc h⟩
    | none => match e with
      | .Name x q => match idxN p x with
        | some ⟨i, h⟩ => if h2 : VisOk p x then some ⟨_, sd_var h h2.1 h2.2.1 h2.2.2⟩ else none
        | none => (match glbIn x p.G with
          | some ⟨.con d, h⟩ => if h2 : GlbOk p x then some ⟨_, sd_con h h2.1 h2.2⟩ else none
          | _ => none)
      | .Constant (.int i) j q => some ⟨.lit (.int i), sd_int⟩
      | .Constant (.str i) j q => some ⟨.lit (.str i), sd_str⟩
      | .Constant (.bool i) j q => some ⟨.lit (.bl i), sd_bl⟩
      | .Constant .none j q => some ⟨.lit .non, sd_non⟩
      | .Tuple es k q => match cA n p es with
        | some ⟨c, h⟩ => some ⟨_, sd_tup h⟩
        | none => none
      | .BinOp a op b q => match cE n p a, cE n p b with
        | some ⟨ca, ha⟩, some ⟨cb, hb⟩ => (match op with
          | .Add => some ⟨_, sd_add ha hb⟩
          | .Sub => some ⟨_, sd_sub ha hb⟩
          | .Mult => some ⟨_, sd_mul ha hb⟩
          | .FloorDiv => some ⟨_, sd_fdiv ha hb⟩
          | .Mod => some ⟨_, sd_mod ha hb⟩
          | .Pow => some ⟨_, sd_pow ha hb⟩
          | .LShift => some ⟨_, sd_shl ha hb⟩
          | .RShift => some ⟨_, sd_shr ha hb⟩
          | .BitAnd => some ⟨_, sd_band ha hb⟩
          | .BitOr => some ⟨_, sd_bor ha hb⟩
          | .BitXor => some ⟨_, sd_bxor ha hb⟩
          | _ => none)
        | _, _ => none
      | .UnaryOp .USub a q => match cE n p a with
        | some ⟨ca, ha⟩ => some ⟨_, sd_neg ha⟩
        | none => none
      | .UnaryOp .Not a q => match cE n p a with
        | some ⟨ca, ha⟩ => some ⟨_, sd_not ha⟩
        | none => none
      | .BoolOp op [a] q => match cE n p a with
        | some ⟨ca, ha⟩ => some ⟨ca, sd_one ha⟩
        | none => none
      | .BoolOp .And (a :: b :: r) q => match cE n p a, cE n p (.BoolOp .And (b :: r) q) with
        | some ⟨ca, ha⟩, some ⟨cb, hb⟩ => some ⟨_, sd_and ha hb⟩
        | _, _ => none
      | .BoolOp .Or (a :: b :: r) q => match cE n p a, cE n p (.BoolOp .Or (b :: r) q) with
        | some ⟨ca, ha⟩, some ⟨cb, hb⟩ => some ⟨_, sd_or ha hb⟩
        | _, _ => none
      | .IfExp t a b q => match cT n p t, cE n p a, cE n p b with
        | some ⟨ct, ht⟩, some ⟨ca, ha⟩, some ⟨cb, hb⟩ => some ⟨_, sd_ife ht ha hb⟩
        | _, _, _ => none
      | .Compare a ops bs q => match cC n p (.Compare a ops bs q) with
        | some ⟨c, h⟩ => some ⟨c, h.1.val⟩
        | none => none
      | .Subscript a (.Slice lo hi none p2) q => match cE n p a, cO n p lo, cO n p hi with
        | some ⟨ca, ha⟩, some ⟨cl, hl⟩, some ⟨ch, hh⟩ => some ⟨_, sd_slc ha hl hh⟩
        | _, _, _ => none
      | .Subscript a b q => if hn : notSlice b = true then (match cE n p a, cE n p b with
        | some ⟨ca, ha⟩, some ⟨cb, hb⟩ => some ⟨_, sd_idx hn ha hb⟩
        | _, _ => none) else none
      | .Dict [] [] q => some ⟨_, sd_dnew⟩
      | .Call (.Attribute a m ap) [k, x] [] q => if hc : m = "get" ∧ notCall a = true ∧ (ap.endLine == q.line) = true ∧ notStar k = true ∧ notStar x = true then (match cE n p a, cE n p k, cE n p x with
        | some ⟨ca, ha⟩, some ⟨ck, hk⟩, some ⟨cx, hx⟩ => some ⟨.dget ca ck cx, by
          obtain ⟨h1, h2, h3, h4, h5⟩ := hc
          subst h1
          exact sd_dget h2 h3 h4 h5 ha hk hx⟩
        | _, _, _ => none)
        else if hc : m = "insert" ∧ notCall a = true ∧ (ap.endLine == q.line) = true ∧ notStar k = true ∧ notStar x = true then (match cE n p a, cE n p k, cE n p x with
        | some ⟨ca, ha⟩, some ⟨ck, hk⟩, some ⟨cx, hx⟩ => some ⟨.ins ca ck cx, by
          obtain ⟨h1, h2, h3, h4, h5⟩ := hc
          subst h1
          exact sd_ins h2 h3 h4 h5 ha hk hx⟩
        | _, _, _ => none) else none
      | .Call (.Attribute a m ap) [] [] q => if hc : notCall a = true ∧ (ap.endLine == q.line) = true then (match cE n p a with
        | some ⟨ca, ha⟩ => if h : m = "pop" then some ⟨.pop ca, by subst h; exact sd_pop hc.1 hc.2 ha⟩ else none
        | none => none) else none
      | .Call (.Attribute (.Constant (.str s) j cp) m ap) [e] [] q => if hc : m = "join" ∧ (ap.endLine == q.line) = true ∧ notStar e = true then (match cR n p e with
        | some ⟨cr, hr⟩ => some ⟨.join s cr, by
          obtain ⟨h1, h2, h3⟩ := hc
          subst h1
          exact sd_join h2 h3 hr⟩
        | none => none) else none
      | .Call (.Attribute a m ap) [e] [] q => if hc : notCall a = true ∧ (ap.endLine == q.line) = true ∧ notStar e = true then (match cE n p a with
        | some ⟨ca, ha⟩ =>
          if h : m = "extend" then (match cR n p e with
            | some ⟨cr, hr⟩ => some ⟨.ext ca cr, by subst h; exact sd_ext hc.1 hc.2.1 hc.2.2 ha hr⟩
            | none => none)
          else (match cE n p e with
            | some ⟨ce, he⟩ =>
              if h : m = "append" then some ⟨.app ca ce, by subst h; exact sd_app hc.1 hc.2.1 hc.2.2 ha he⟩
              else if h : m = "pop" then some ⟨.popAt ca ce, by subst h; exact sd_popAt hc.1 hc.2.1 hc.2.2 ha he⟩
              else if h : m = "index" then some ⟨.tix ca ce, by subst h; exact sd_tix hc.1 hc.2.1 hc.2.2 ha he⟩
              else none
            | none => none)
        | none => none) else none
      | .Call (.Name f q2) es [] q => match isF_ p f with
        | some ⟨i, hf⟩ => (match es with
          | [] => some ⟨_, sd_call0 hf.1 hf.2.1 hf.2.2⟩
          | e :: es => if hs : notStar e = true ∧ es.all notStar = true then (match cA n p (e :: es) with
            | some ⟨c, h⟩ => some ⟨_, sd_call hf.1 hf.2.1 hf.2.2 hs.1 hs.2 h⟩
            | none => none) else none)
        | none => match isB_ p f with
          | some ⟨hb⟩ => (match es with
            | [e] => if hs : notStar e = true then
                (if h : f = "int" then (match cE n p e with
                  | some ⟨c, hc⟩ => some ⟨.fn1 .int c, by subst h; exact sd_intT hb.1 hb.2 hs hc⟩
                  | none => none)
                else if h : f = "abs" then (match cE n p e with
                  | some ⟨c, hc⟩ => some ⟨.fn1 .abs c, by subst h; exact sd_abs hb.1 hb.2 hs hc⟩
                  | none => none)
                else if h : f = "str" then (match cE n p e with
                  | some ⟨c, hc⟩ => some ⟨.fn1 .str c, by subst h; exact sd_strT hb.1 hb.2 hs hc⟩
                  | none => none)
                else (match cR n p e with
                  | some ⟨c, hc⟩ =>
                    if h : f = "len" then some ⟨.agg .len c, by subst h; exact sd_len hb.1 hb.2 hs hc⟩
                    else if h : f = "tuple" then some ⟨.agg .tuple c, by subst h; exact sd_tuple hb.1 hb.2 hs hc⟩
                    else if h : f = "sum" then some ⟨.agg .sum c, by subst h; exact sd_sum hb.1 hb.2 hs hc⟩
                    else if h : f = "all" then some ⟨.agg .all c, by subst h; exact sd_all hb.1 hb.2 hs hc⟩
                    else if h : f = "any" then some ⟨.agg .any c, by subst h; exact sd_any hb.1 hb.2 hs hc⟩
                    else if h : f = "max" then some ⟨.agg .max c, by subst h; exact sd_max hb.1 hb.2 hs hc⟩
                    else if h : f = "min" then some ⟨.agg .min c, by subst h; exact sd_min hb.1 hb.2 hs hc⟩
                    else none
                  | none => none)) else none
            | [a, b] => if hs : notStar a = true ∧ notStar b = true then
                (if h : f = "isinstance" then (match b with
                  | .Name T q3 => (match isB_ p T, cE n p a with
                    | some ⟨hT⟩, some ⟨ca, ha⟩ =>
                      if h2 : T = "int" then some ⟨.isi ca .int, by subst h h2; exact sd_isi (t := .int) hb.1 hb.2 hT.1 hT.2 (by decide +kernel) (by decide) (by decide) hs.1 ha⟩
                      else if h2 : T = "bool" then some ⟨.isi ca .bool, by subst h h2; exact sd_isi (t := .bool) hb.1 hb.2 hT.1 hT.2 (by decide +kernel) (by decide) (by decide) hs.1 ha⟩
                      else if h2 : T = "str" then some ⟨.isi ca .str, by subst h h2; exact sd_isi (t := .str) hb.1 hb.2 hT.1 hT.2 (by decide +kernel) (by decide) (by decide) hs.1 ha⟩
                      else if h2 : T = "tuple" then some ⟨.isi ca .tuple, by subst h h2; exact sd_isi (t := .tuple) hb.1 hb.2 hT.1 hT.2 (by decide +kernel) (by decide) (by decide) hs.1 ha⟩
                      else none
                    | _, _ => none)
                  | _ => none)
                else (match cE n p a, cE n p b with
                  | some ⟨ca, ha⟩, some ⟨cb, hb'⟩ =>
                    if h : f = "min" then some ⟨.fn2 .min ca cb, by subst h; exact sd_min2 hb.1 hb.2 hs.1 hs.2 ha hb'⟩
                    else if h : f = "max" then some ⟨.fn2 .max ca cb, by subst h; exact sd_max2 hb.1 hb.2 hs.1 hs.2 ha hb'⟩
                    else none
                  | _, _ => none)) else none
            | _ => none)
          | none => (match es with
            | [a, b] => (match glbIn f p.G with
              | some ⟨.fn id, hm⟩ => if hs : (notStar a = true ∧ notStar b = true) ∧ GlbOk p f then (if h : id = "math.gcd" then (match cE n p a, cE n p b with
                | some ⟨ca, ha⟩, some ⟨cb, hb'⟩ => some ⟨.fn2 .gcd ca cb, by subst h; exact sd_gcd hm hs.2.1 hs.2.2 hs.1.1 hs.1.2 ha hb'⟩
                | _, _ => none) else none) else none
              | _ => none)
            | _ => none)
      | _ => none
def cO : Nat → (p : Pl) → (e : Option Expr) → Option { c : CO // SdO p e c }
  | 0, _, _ => none
  | n + 1, p, none => some ⟨.none, so_none⟩
  | n + 1, p, some e => match cE n p e with
    | some ⟨c, h⟩ => some ⟨_, so_some h⟩
    | none => none
def cA : Nat → (p : Pl) → (es : List Expr) → Option { c : CEs // SdA p es c }
  | 0, _, _ => none
  | n + 1, p, [] => some ⟨.nil, sa_nil⟩
  | n + 1, p, e :: es => if hs : notStar e = true then (match cE n p e, cA n p es with
    | some ⟨c, h⟩, some ⟨cs, hs'⟩ => some ⟨_, sa_cons h hs' (fun env => star_cons hs es env)⟩
    | _, _ => none) else none
def cR : Nat → (p : Pl) → (e : Expr) → Option { c : CR // SdR p e c }
  | 0, _, _ => none
  | n + 1, p, e => match cQ n p e with
    | some ⟨q, h⟩ => some ⟨_, sr_q h⟩
    | none => match cE n p e with
      | some ⟨c, h⟩ => some ⟨_, sr_e h⟩
      | none => none
def cQ : Nat → (p : Pl) → (e : Expr) → Option { c : CQ // SdQ p e c }
  | 0, _, _ => none
  | n + 1, p, e => match e with
    | .List es q => match cA n p es with
      | some ⟨c, h⟩ => some ⟨_, sq_disp h⟩
      | none => none
    | .ListComp elt [⟨tg, iter, [], 0⟩] scope q =>
      if hs : blkC p.N p.sc scope (ownOf p scope) = true ∧ notSet iter = true then (match cI n p tg iter, cN (p.within scope) tg, cE n (p.within scope) elt with
        | some ⟨ii, hi⟩, some ⟨g, hg⟩, some ⟨ce, he⟩ => if h : storeB p scope g = true ∧ inOwn (ownOf p scope) g = true then some ⟨_, sq_comp hi hs.1 hg h.1 h.2 he hs.2⟩ else none
        | _, _, _ => none) else none
    | .ListComp elt [⟨tg, iter, [c], 0⟩] scope q =>
      if hs : blkC p.N p.sc scope (ownOf p scope) = true ∧ notSet iter = true then (match cI n p tg iter, cN (p.within scope) tg, cE n (p.within scope) elt, cT n (p.within scope) c with
        | some ⟨ii, hi⟩, some ⟨g, hg⟩, some ⟨ce, he⟩, some ⟨ct, ht⟩ => if h : storeB p scope g = true ∧ inOwn (ownOf p scope) g = true then some ⟨_, sq_compIf hi hs.1 hg h.1 h.2 he hs.2 ht⟩ else none
        | _, _, _, _ => none) else none
    | .BinOp a .Add b q => if looksList 20 a || looksList 20 b then (match cR n p a, cR n p b with
      | some ⟨ca, ha⟩, some ⟨cb, hb⟩ => some ⟨_, sq_cat ha hb⟩
      | _, _ => none) else none
    | .Subscript a (.Slice none none (some (.UnaryOp .USub (.Constant (.int 1) k p1) p2)) p3) q => match cR n p a with
      | some ⟨ca, ha⟩ => some ⟨_, sq_rev ha⟩
      | none => none
    | .Call (.Name f q2) [.Call (.Name f2 q3) es2 [] q4] [] q => match isB_ p f, isB_ p f2 with
      | some ⟨hb⟩, some ⟨hb2⟩ => if h : f = "list" ∧ f2 = "range" then (match es2 with
          | [a] => if hs : notStar a = true then (match cE n p a with
            | some ⟨ca, ha⟩ => some ⟨.listRg (.lit (.int 0)) ca, by obtain ⟨h1, h2⟩ := h; subst h1 h2; exact sq_listRg1 hb.1 hb.2 hb2.1 hb2.2 hs ha⟩
            | none => none) else none
          | [a, b] => if hs : notStar a = true ∧ notStar b = true then (match cE n p a, cE n p b with
            | some ⟨ca, ha⟩, some ⟨cb, hb'⟩ => some ⟨.listRg ca cb, by obtain ⟨h1, h2⟩ := h; subst h1 h2; exact sq_listRg2 hb.1 hb.2 hb2.1 hb2.2 hs.1 hs.2 ha hb'⟩
            | _, _ => none) else none
          | _ => none)
        else if hf : f = "list" ∨ f = "sorted" then (match cR n p (.Call (.Name f2 q3) es2 [] q4) with
          | some ⟨c, hc⟩ =>
            if h : f = "list" then some ⟨.list c, by subst h; exact sq_list hb.1 hb.2 rfl hc⟩
            else if h : f = "sorted" then some ⟨.sorted c, by subst h; exact sq_sorted hb.1 hb.2 rfl hc⟩
            else none
          | none => none) else none
      | some ⟨hb⟩, none => if hf : f = "list" ∨ f = "sorted" then (match cR n p (.Call (.Name f2 q3) es2 [] q4) with
          | some ⟨c, hc⟩ =>
            if h : f = "list" then some ⟨.list c, by subst h; exact sq_list hb.1 hb.2 rfl hc⟩
            else if h : f = "sorted" then some ⟨.sorted c, by subst h; exact sq_sorted hb.1 hb.2 rfl hc⟩
            else none
          | none => none) else none
      | _, _ => none
    | .Call (.Name f q2) [e] [] q => match isB_ p f with
      | some ⟨hb⟩ => if hs : notStar e = true ∧ (f = "list" ∨ f = "sorted") then (match cR n p e with
          | some ⟨c, hc⟩ =>
            if h : f = "list" then some ⟨.list c, by subst h; exact sq_list hb.1 hb.2 hs.1 hc⟩
            else if h : f = "sorted" then some ⟨.sorted c, by subst h; exact sq_sorted hb.1 hb.2 hs.1 hc⟩
            else none
          | none => none) else none
      | none => none
    | _ => none
def cI : Nat → (p : Pl) → (tg e : Expr) → Option { c : CI // SdI p tg e c }
  | 0, _, _, _ => none
  | n + 1, p, tg, e => match e with
    | .Call (.Name f q) [a] [] pos => (match isB_ p f with
      | some ⟨hb⟩ => if h : f = "range" ∧ notStar a = true then (match cE n p a with
          | some ⟨ca, ha⟩ => some ⟨.rg (.lit (.int 0)) ca, by obtain ⟨h1, h2⟩ := h; subst h1; exact si_rg1 (pos2 := pos) hb.1 hb.2 h2 ha⟩
          | none => none)
        else (match cR n p (.Call (.Name f q) [a] [] pos) with
          | some ⟨c, h⟩ => some ⟨_, si_r h⟩
          | none => none)
      | none => (match cR n p (.Call (.Name f q) [a] [] pos) with
          | some ⟨c, h⟩ => some ⟨_, si_r h⟩
          | none => none))
    | .Call (.Name f q) [a, b, .UnaryOp .USub (.Constant (.int 1) _ p1) p2] [] pos => (match isB_ p f with
      | some ⟨hb⟩ => if h : f = "range" ∧ notStar a = true ∧ notStar b = true then (match cE n p a, cE n p b with
          | some ⟨ca, ha⟩, some ⟨cb, hb'⟩ => some ⟨.rgd ca cb, by obtain ⟨h1, h2, h3⟩ := h; subst h1; exact si_rgd (pos2 := pos) hb.1 hb.2 h2 h3 ha hb'⟩
          | _, _ => none)
        else none
      | none => (match cR n p (.Call (.Name f q) [a, b, .UnaryOp .USub (.Constant (.int 1) _ p1) p2] [] pos) with
          | some ⟨c, h⟩ => some ⟨_, si_r h⟩
          | none => none))
    | .Call (.Name f q) [a, b] [] pos => (match isB_ p f with
      | some ⟨hb⟩ => if h : f = "range" ∧ notStar a = true ∧ notStar b = true then (match cE n p a, cE n p b with
          | some ⟨ca, ha⟩, some ⟨cb, hb'⟩ => some ⟨.rg ca cb, by obtain ⟨h1, h2, h3⟩ := h; subst h1; exact si_rg2 (pos2 := pos) hb.1 hb.2 h2 h3 ha hb'⟩
          | _, _ => none)
        else (match cR n p (.Call (.Name f q) [a, b] [] pos) with
          | some ⟨c, h⟩ => some ⟨_, si_r h⟩
          | none => none)
      | none => (match cR n p (.Call (.Name f q) [a, b] [] pos) with
          | some ⟨c, h⟩ => some ⟨_, si_r h⟩
          | none => none))
    | e => (match cR n p e with
      | some ⟨c, h⟩ => some ⟨_, si_r h⟩
      | none => none)
def cC : Nat → (p : Pl) → (e : Expr) → Option { c : CE // SdC p e c ∧ ∀ C ρ S d S', evE C c ρ S = .ok d S' → isB d = true }
  | 0, _, _ => none
  | n + 1, p, e => match e with
    | .Compare a [.Is] [.Constant .none j q2] q => (match cE n p a with
      | some ⟨ca, ha⟩ => some ⟨_, sc_isN ha, b_isN⟩
      | none => none)
    | .Compare a [.IsNot] [.Constant .none j q2] q => (match cE n p a with
      | some ⟨ca, ha⟩ => some ⟨_, sc_notN ha, b_notN⟩
      | none => none)
    | .Compare a [.In] [b] q => if hm : behindInMarks .In b = false then (match cE n p a, cR n p b with
      | some ⟨ca, ha⟩, some ⟨cb, hb⟩ => some ⟨_, sc_in hm ha hb, b_in⟩
      | _, _ => none) else none
    | .Compare a [.NotIn] [b] q => if hm : behindInMarks .NotIn b = false then (match cE n p a, cR n p b with
      | some ⟨ca, ha⟩, some ⟨cb, hb⟩ => some ⟨_, sc_notIn hm ha hb, b_notIn⟩
      | _, _ => none) else none
    | .Compare a [op] [b] q => (match copOf op, cE n p a, cE n p b with
      | some ⟨o, ho⟩, some ⟨ca, ha⟩, some ⟨cb, hb⟩ => some ⟨.cmp o ca cb, by subst ho; exact sc_cmp o ha hb, b_cmp⟩
      | _, _, _ => none)
    | .Compare a [op, op2] [b, c] q => (match copOf op, copOf op2, cE n p a, cE n p b, cE n p c with
      | some ⟨o, ho⟩, some ⟨o2, ho2⟩, some ⟨ca, ha⟩, some ⟨cb, hb⟩, some ⟨cc, hc⟩ => if hm : lastMarks [op, op2] [b, c] = false then some ⟨.chn o o2 ca cb cc, by subst ho ho2; exact sc_chn o o2 hm ha hb hc, b_chn⟩ else none
      | _, _, _, _, _ => none)
    | _ => none
def cT : Nat → (p : Pl) → (e : Expr) → Option { c : CT // SdT p e c }
  | 0, _, _ => none
  | n + 1, p, e => match e with
    | .UnaryOp .Not a q => (match cT n p a with
      | some ⟨c, h⟩ => some ⟨_, st_not h⟩
      | none => none)
    | .BoolOp op vs q => (match cW n p (.BoolOp op vs q) with
      | some ⟨c, h⟩ => some ⟨c, st_w h⟩
      | none => none)
    | .Compare a ops bs q => (match cC n p (.Compare a ops bs q) with
      | some ⟨c, h⟩ => some ⟨.v c, h.1.test h.2⟩
      | none => none)
    | e => if hp : plainTest e = true then (match cE n p e with
      | some ⟨c, h⟩ => some ⟨_, st_plain hp h⟩
      | none => none) else none
def cW : Nat → (p : Pl) → (e : Expr) → Option { c : CT // SdW p e c }
  | 0, _, _ => none
  | n + 1, p, e => match e with
    | .BoolOp .And [a] q => (match cT n p a with
      | some ⟨c, h⟩ => some ⟨c, sw_and1 h⟩
      | none => none)
    | .BoolOp .Or [a] q => (match cT n p a with
      | some ⟨c, h⟩ => some ⟨c, sw_or1 h⟩
      | none => none)
    | .BoolOp .And (a :: b :: r) q => (match cT n p a, cW n p (.BoolOp .And (b :: r) q) with
      | some ⟨ca, ha⟩, some ⟨cb, hb⟩ => some ⟨_, sw_and ha hb⟩
      | _, _ => none)
    | .BoolOp .Or (a :: b :: r) q => (match cT n p a, cW n p (.BoolOp .Or (b :: r) q) with
      | some ⟨ca, ha⟩, some ⟨cb, hb⟩ => some ⟨_, sw_or ha hb⟩
      | _, _ => none)
    | _ => none
end
end PQ

/-! The compiler of statements; whole defs. -/
namespace PQ
open PySem PySem.Spec PyProof.Rows L2
/-- a comprehension's parts -/
def asgLc0 (m : Nat) (p : Pl) (x : Str) (q2 : Pos) (q : Pos) (elt tg iter : Expr) (scope : Scope) (q3 : Pos) : Option { c : CS // SdS p (.Assign [.Name x q2] (.ListComp elt [⟨tg, iter, [], 0⟩] scope q3) q) c } :=
  if hs : blkC p.N p.sc scope (ownOf p scope) = true ∧ notSet iter = true ∧ p.sc.names.lookup x = some .local ∧ swapB p.sc x scope q2.line q3.line = true then (match idxN p x, cI m p tg iter, cN (p.within scope) tg, cE m (p.within scope) elt with
    | some ⟨j, hj⟩, some ⟨ii, hi⟩, some ⟨g, hg⟩, some ⟨ce, he⟩ => if h : storeB p scope g = true ∧ inOwn (ownOf p scope) g = true then some ⟨_, s_setLc hj hs.2.2.1 hs.2.2.2 hi hs.1 hg h.1 h.2 he hs.2.1⟩ else none
    | _, _, _, _ => none) else none
def asgLc1 (m : Nat) (p : Pl) (x : Str) (q2 : Pos) (q : Pos) (elt tg iter c : Expr) (scope : Scope) (q3 : Pos) : Option { r : CS // SdS p (.Assign [.Name x q2] (.ListComp elt [⟨tg, iter, [c], 0⟩] scope q3) q) r } :=
  if hs : blkC p.N p.sc scope (ownOf p scope) = true ∧ notSet iter = true ∧ p.sc.names.lookup x = some .local ∧ swapB p.sc x scope q2.line q3.line = true then (match idxN p x, cI m p tg iter, cN (p.within scope) tg, cE m (p.within scope) elt, cT m (p.within scope) c with
    | some ⟨j, hj⟩, some ⟨ii, hi⟩, some ⟨g, hg⟩, some ⟨ce, he⟩, some ⟨ct, ht⟩ => if h : storeB p scope g = true ∧ inOwn (ownOf p scope) g = true then some ⟨_, s_setLcIf hj hs.2.2.1 hs.2.2.2 hi hs.1 hg h.1 h.2 he hs.2.1 ht⟩ else none
    | _, _, _, _, _ => none) else none
def asgGs (m : Nat) (p : Pl) (x : Str) (q2 : Pos) (q : Pos) (elt : Expr) (scope : Scope) (q3 : Pos) : (gs : List Comprehension) → Option { c : CS // SdS p (.Assign [.Name x q2] (.ListComp elt gs scope q3) q) c }
  | [⟨tg, iter, ifs, a⟩] => if ha : a = 0 then (match ifs with
      | [] => by subst ha; exact asgLc0 m p x q2 q elt tg iter scope q3
      | [c] => by subst ha; exact asgLc1 m p x q2 q elt tg iter c scope q3
      | _ => none) else none
  | _ => none
def asgName (m : Nat) (p : Pl) (x : Str) (q2 : Pos) (e : Expr) (q : Pos) : Option { c : CS // SdS p (.Assign [.Name x q2] e q) c } :=
  if hsw : swB p.sc e x q2.line = false then (match nameAt p x, cE m p e with
    | some ⟨j, hj⟩, some ⟨c, h⟩ => some ⟨_, s_setN hj h (fun env he => swB_ok hsw env he)⟩
    | _, _ => none)
  else (match e with
    | .ListComp elt gs scope q3 => asgGs m p x q2 q elt scope q3 gs
    | _ => none)
def nm? : (e : Expr) → Option { x : Str × Pos // e = .Name x.1 x.2 }
  | .Name x q => some ⟨(x, q), rfl⟩
  | _ => none
def asgPar (m : Nat) (p : Pl) (q q2 q3 : Pos) (k k2 : Nat) (e1 e2 a b : Expr) : Option { c : CS // SdS p (.Assign [.Tuple [e1, e2] k q2] (.Tuple [a, b] k2 q3) q) c } := match nm? e1, nm? e2 with
  | some ⟨x, hx⟩, some ⟨y, hy⟩ => (match idxN p x.1, idxN p y.1, cE m p a, cE m p b with
    | some ⟨j, hj⟩, some ⟨k', hk⟩, some ⟨ca, ha⟩, some ⟨cb, hb⟩ => if h : j ≠ k' ∧ p.sc.names.lookup x.1 = some .local ∧ p.sc.names.lookup y.1 = some .local ∧ notStar a = true ∧ notStar b = true ∧ swpS p.sc [.Name x.1 x.2, .Name y.1 y.2] [a, b] = some (some [x.1, y.1]) then
        some ⟨.par j k' ca cb, by subst hx hy; exact s_par hj hk h.1 h.2.1 h.2.2.1 h.2.2.2.1 h.2.2.2.2.1 ha hb (fun env he => swpS_ok h.2.2.2.2.2 env he)⟩ else none
    | _, _, _, _ => none)
  | _, _ => none
def asgTT (m : Nat) (p : Pl) (es vs : List Expr) (q q2 q3 : Pos) (k k2 : Nat) : Option { c : CS // SdS p (.Assign [.Tuple es k q2] (.Tuple vs k2 q3) q) c } :=
  if hw : swpS p.sc es vs = some none then (match namesAt p es, cE m p (.Tuple vs k2 q3) with
    | some ⟨is, hi⟩, some ⟨c, h⟩ => some ⟨_, s_setT hi h (fun env he => swpS_ok hw env he)⟩
    | _, _ => none)
  else (match es with
    | [e1, e2] => (match vs with
      | [a, b] => asgPar m p q q2 q3 k k2 e1 e2 a b
      | _ => none)
    | _ => none)
def notTup : Expr → Bool
  | .Tuple .. => false
  | _ => true
theorem sw_no {ts : Expr} {e : Expr} (h : notTup e = true) (env : Env) : swappedStores [ts] e env = pure none := by
  cases e <;> first | (cases h; done) | (cases ts <;> rfl)
def asgTup (m : Nat) (p : Pl) (es : List Expr) (k : Nat) (q2 : Pos) (e : Expr) (q : Pos) : Option { c : CS // SdS p (.Assign [.Tuple es k q2] e q) c } :=
  if hw : notTup e = true then (match namesAt p es, cE m p e with
    | some ⟨is, hi⟩, some ⟨c, h⟩ => some ⟨_, s_setT hi h (fun env _ => sw_no hw env)⟩
    | _, _ => none)
  else (match e with
    | .Tuple vs k2 q3 => asgTT m p es vs q q2 q3 k k2
    | _ => none)
def asgSub (m : Nat) (p : Pl) (o i : Expr) (q2 : Pos) (e : Expr) (q : Pos) : Option { c : CS // SdS p (.Assign [.Subscript o i q2] e q) c } :=
  if hn : notSlice i = true then (match cE m p o, cE m p i, cE m p e with
    | some ⟨co, ho⟩, some ⟨ci, hi⟩, some ⟨c, h⟩ => some ⟨_, s_sub2 hn ho hi h⟩
    | _, _, _ => none) else none
def cAsg (m : Nat) (p : Pl) (e : Expr) (q : Pos) : (t : Expr) → Option { c : CS // SdS p (.Assign [t] e q) c }
  | .Name x q2 => asgName m p x q2 e q
  | .Tuple es k q2 => asgTup m p es k q2 e q
  | .Subscript o i q2 => asgSub m p o i q2 e q
  | _ => none
def cAug (m : Nat) (p : Pl) (op : Operator) (e : Expr) (q : Pos) : (t : Expr) → Option { c : CS // SdS p (.AugAssign t op e q) c }
  | .Name x q2 => (match bopOf op, nameAt p x, cE m p e with
      | some ⟨f, hf⟩, some ⟨j, hj⟩, some ⟨c, h⟩ => some ⟨.aug j f c, by subst hf; exact s_aug hj h⟩
      | _, _, _ => none)
  | .Subscript o i q2 => if hn : notSlice i = true then (match bopOf op, cE m p o, cE m p i, cE m p e with
      | some ⟨f, hf⟩, some ⟨co, ho⟩, some ⟨ci, hi⟩, some ⟨c, h⟩ => some ⟨.augS co ci f c, by subst hf; exact s_augS hn ho hi h⟩
      | _, _, _, _ => none) else none
  | _ => none
mutual
def cS (m : Nat) : Nat → (p : Pl) → (s : Stmt) → Option { c : CS // SdS p s c }
  | 0, _, _ => none
  | n + 1, p, s => match s with
    | .Pass q => some ⟨.pass, s_pass⟩
    | .Break q => some ⟨.brk, s_brk⟩
    | .Continue q => some ⟨.cont, s_cont⟩
    | .Return r q => (match r with
      | some e => (match cE m p e with
        | some ⟨c, h⟩ => some ⟨_, s_ret h⟩
        | none => none)
      | none => none)
    | .Expr e q => if hn : notComp e = true then (match cE m p e with
      | some ⟨c, h⟩ => some ⟨_, s_ex hn h⟩
      | none => none) else none
    | .If t a b q => (match cT m p t, cSs m n p a, cSs m n p b with
      | some ⟨ct, ht⟩, some ⟨ca, ha⟩, some ⟨cb, hb⟩ => some ⟨_, s_if ht ha hb⟩
      | _, _, _ => none)
    | .For tg iter b oe q => (match oe with
      | [] => if hs : notSet iter = true then (match cI m p tg iter, cN p tg, cSs m n p b with
        | some ⟨ii, hi⟩, some ⟨g, hg⟩, some ⟨cb, hb⟩ => some ⟨_, s_for hs hi hg hb⟩
        | _, _, _ => none) else none
      | _ => none)
    | .Raise e1 e2 q => some ⟨_, s_raise⟩
    | .While t b oe q => (match oe with
      | [] => (match cT m p t, cSs m n p b with
        | some ⟨ct, ht⟩, some ⟨cb, hb⟩ => some ⟨_, s_while ht hb⟩
        | _, _ => none)
      | _ => none)
    | .AugAssign t op e q => cAug m p op e q t
    | .Assign ts e q => (match ts with
      | [t] => cAsg m p e q t
      | _ => none)
    | _ => none
def cSs (m : Nat) : Nat → (p : Pl) → (s : List Stmt) → Option { c : CSs // SdSs p s c }
  | 0, _, _ => none
  | n + 1, p, [] => some ⟨.nil, ss_nil⟩
  | n + 1, p, s :: ss => (match cS m n p s, cSs m n p ss with
    | some ⟨c, h⟩, some ⟨cs, hs⟩ => some ⟨_, ss_cons h hs⟩
    | _, _ => none)
end

/-! ### whole defs -/
/-- a def: its name, its names by slot, how many of them are parameters, its body -/
structure Fn where
  name : Str
  N : List Str
  ps : Nat
  body : CSs
def startE (n : Nat) (ds : List D) : En := ds.map some ++ List.replicate (n - ds.length) none
mutual
/-- no number of the store from n on -/
def below (n : Nat) : D → Prop
  | .tup ds => belows n ds
  | .fix ds => belows n ds
  | .ref i => i < n
  | _ => True
def belows (n : Nat) : List D → Prop
  | [] => True
  | d :: ds => below n d ∧ belows n ds
end
def Ob.below (n : Nat) : Ob → Prop
  | .lst ds => belows n ds
  | .dic ks => belows n (ks.map (·.2))
/-- what a call made is out of reach behind it -/
def Safe (S : Sto) (d : D) (S' : Sto) : Prop := below S.length d ∧ S.length ≤ S'.length ∧ ∀ (i : Nat) o, i < S.length → S'[i]? = some o → S[i]? = some o ∨ o.below S.length
noncomputable def gc (S : Sto) (d : D) (S' : Sto) : Res D := open Classical in if Safe S d S' then .ok d (S'.take S.length) else .ok d S'
/-- a body's run -/
noncomputable def runB (C : Orc) (f : Fn) (ds : List D) (S : Sto) : Res D := (evSs C f.body (startE f.N.length ds) S).bind fun fl S' => match fl with
  | .nx _ => .ok .non S'
  | .rt d => .ok d S'
  | _ => .bad
noncomputable def callF (C : Orc) (f : Fn) (ds : List D) (S : Sto) : Res D := if ds.length = f.ps then (runB C f ds S).bind fun d S' => gc S d S' else .bad
/-- the defs, calls at most k deep -/
noncomputable def orc (T : List Fn) : Nat → Orc
  | 0, _, _, _ => .bad
  | k + 1, f, ds, S => match T[f]? with
    | some fn => callF (orc T k) fn ds S
    | none => .bad

section
variable {K : Fg} {μ μ' : List Addr} {H H' : Hp} {S S' : Sto}
mutual
theorem below_rp : ∀ (d : D) (v : V), Rp K μ H d v → below μ.length d
  | .non, _, _ => trivial
  | .bl _, _, _ => trivial
  | .int _, _, _ => trivial
  | .str _, _, _ => trivial
  | .tup ds, _, ⟨_, vs, _, _, h, _⟩ => belows_rp ds vs h
  | .fix ds, _, ⟨_, vs, _, _, h, _⟩ => belows_rp ds vs h
  | .ref i, _, ⟨_, _, h⟩ => (List.getElem?_eq_some_iff.mp h).1
theorem belows_rp : ∀ (ds : List D) (vs : List V), RpA K μ H ds vs → belows μ.length ds
  | [], _, _ => trivial
  | d :: ds, _, ⟨v, r, _, h1, h2⟩ => ⟨below_rp d v h1, belows_rp ds r h2⟩
end
mutual
theorem rp_below {n : Nat} (hn : n ≤ μ.length) : ∀ (d : D) (v : V), below n d → Rp K μ H d v → Rp K (μ.take n) H d v
  | .non, _, _, h => h
  | .bl _, _, _, h => h
  | .int _, _, _, h => h
  | .str _, _, _, h => h
  | .tup ds, _, b, ⟨a, vs, h1, h2, h3, h4⟩ => ⟨a, vs, h1, h2, rps_below hn ds vs b h3, h4⟩
  | .fix ds, _, b, ⟨a, vs, h1, h2, h3, h4⟩ => ⟨a, vs, h1, h2, rps_below hn ds vs b h3, h4⟩
  | .ref i, _, b, ⟨a, h1, h2⟩ => ⟨a, h1, by
    rw [List.getElem?_take_of_lt b]
    exact h2⟩
theorem rps_below {n : Nat} (hn : n ≤ μ.length) : ∀ (ds : List D) (vs : List V), belows n ds → RpA K μ H ds vs → RpA K (μ.take n) H ds vs
  | [], _, _, h => h
  | d :: ds, _, b, ⟨v, r, h1, h2, h3⟩ => ⟨v, r, h1, rp_below hn d v b.1 h2, rps_below hn ds r b.2 h3⟩
end
theorem RpK.below : ∀ {ks : List (Key × D)} {vs : List (Key × V)}, RpK K μ H ks vs → belows μ.length (ks.map (·.2))
  | [], _, _ => trivial
  | kd :: r, _, ⟨v, t, _, h2, h3⟩ => ⟨below_rp kd.2 v h2, h3.below⟩
theorem RpK.take {n : Nat} (hn : n ≤ μ.length) : ∀ {ks : List (Key × D)} {vs : List (Key × V)}, belows n (ks.map (·.2)) → RpK K μ H ks vs → RpK K (μ.take n) H ks vs
  | [], _, _, h => h
  | kd :: r, _, b, ⟨v, t, h1, h2, h3⟩ => ⟨v, t, h1, rp_below hn kd.2 v b.1 h2, RpK.take hn b.2 h3⟩
theorem gc_ok (hs : StOk K μ H S) (e : Ext K μ H μ' H') (hs' : StOk K μ' H' S') {d : D} {v : V} (r : Rp K μ' H' d v) {Q : V → Hp → Prop} (h : Po K μ H (gc S d S') fun d _ μ' H' => ∀ v, Rp K μ' H' d v → Q v H') : Q v H' := by
  unfold gc at h
  split at h
  · rename_i sf
    obtain ⟨b, l, old⟩ := sf
    obtain ⟨l', rfl, n'⟩ := e.pre
    have et : (μ ++ l').take S.length = μ := by rw [← hs.len, List.take_left' rfl]
    refine h μ H' ⟨⟨[], by simp, fun a z => nomatch z⟩, e.alive, e.fr, e.tup, e.fix⟩ ⟨by rw [List.length_take, hs.len]; omega, hs.nd, fun i o a e1 e2 => ?_⟩ v ?_
    · have hi : i < S.length := by rw [← hs.len]; exact (List.getElem?_eq_some_iff.mp e2).1
      rw [List.getElem?_take_of_lt hi] at e1
      have bo : o.below S.length := by
        rcases old i o hi e1 with q | q
        · have := hs.ob i o a q e2
          cases o with
          | dic ks =>
            obtain ⟨vs, _, k, _⟩ := this
            rw [← hs.len]
            exact k.below
          | lst ds =>
            obtain ⟨vs, _, k, _⟩ := this
            rw [← hs.len]
            exact belows_rp ds vs k
        · exact q
      have k := hs'.ob i o a e1 (by rw [List.getElem?_append_left (by rw [hs.len]; exact hi)]; exact e2)
      cases o with
      | dic ks =>
        obtain ⟨vs, k1, k2, k3, k4⟩ := k
        refine ⟨vs, k1, ?_, k3, k4⟩
        have := RpK.take (n := S.length) (by rw [List.length_append, hs.len]; omega) bo k2
        rw [et] at this
        exact this
      | lst ds =>
        obtain ⟨vs, k1, k2, k3⟩ := k
        refine ⟨vs, k1, ?_, k3⟩
        have := rps_below (n := S.length) (by rw [List.length_append, hs.len]; omega) ds vs bo k2
        rw [et] at this
        exact this
    · have := rp_below (n := S.length) (by rw [List.length_append, hs.len]; omega) d v b r
      rw [et] at this
      exact this
  · exact h μ' H' e hs' v r
theorem start_ok {N : List Str} {ds : List D} {vs : List V} (r : RpA K μ H ds vs) : EnvOk K μ H (startE N.length ds) (L2.start N vs) := by
  unfold startE L2.start
  have hl := r.length
  refine ⟨by simp only [List.length_append, List.length_map, List.length_replicate]; omega, fun i d q => ?_⟩
  by_cases hi : i < ds.length
  · rw [List.getElem?_append_left (by rw [List.length_map]; exact hi), List.getElem?_map] at q
    cases e : ds[i]? with
    | none => rw [e] at q; cases q
    | some d' =>
      rw [e] at q
      cases q
      obtain ⟨v, e1, r1⟩ := r.get e
      refine ⟨v, ?_, r1⟩
      rw [List.getElem?_append_left (by rw [List.length_map]; omega), List.getElem?_map, e1]
      rfl
  · rw [List.getElem?_append_right (by rw [List.length_map]; omega), List.getElem?_replicate] at q
    split at q <;> cases q
end
/-- what a def keeps, from its body -/
theorem fn_ok {P : Program} {w : World} {K : Fg} {mg : Str → Option Value} {base : Heap} {C : Orc} {p : Pl} {fn : Fn} {i k : Nat} {x qual : Str} {params : Arguments} {body : List Stmt} {scope : Scope} {f : Addr} {fd : FuncData} (F : FunD K x qual params body scope [] [] f fd) (ps : List Str)
    (Sc : FnScope fn.N ps scope) (hps : ps.length = fn.ps) (hN : p.N = fn.N) (hsc : p.sc = scope) (hb : SdSs p body fn.body) (hC : ∀ ds S, C i ds S = .bad → False → False)
    (blt : ∀ x, x ∈ p.B → mg x = none)
    (glb : ∀ x g, (x, g) ∈ p.G → GvOk K mg x g)
    (fns : ∀ (j : Nat) y, p.T[j]? = some y → ∃ g gd ps, mg y = some (.ref g) ∧ FnOk P w K mg base CX0 k g gd ps (spC K C j) ∧ PySem.W.keepIn K (.ref g) = true ∧ Binds K gd ps [])
    (hk : 190 ≤ k ∧ k ≤ 300) : FnOk P w K mg base CX0 (k + 1) f fd ps (fun vs H Q _ => ∃ μ ds S, StOk K μ H S ∧ RpA K μ H ds vs ∧ Po K μ H (callF C fn ds S) fun d _ μ' H' => ∀ v, Rp K μ' H' d v → Q v H') := by
  refine F.ok Sc (fun vs H Q E h => ?_) (fun cdv A outer s H vs Q E hr h => ?_)
  · obtain ⟨μ, ds, S, _, r, h⟩ := h
    unfold callF at h
    split at h
    · rename_i hl
      rw [← r.length, hl, hps]
    · exact h.elim
  · obtain ⟨μ, ds, S, hs, r, h⟩ := h
    unfold callF at h
    split at h
    · rename_i hl
      generalize hX : cxOf CX0 P w K mg base fn.N qual scope f cdv A outer s H E = X
      have gd : Good X.nox p C := by
        subst hX
        refine ⟨rfl, Sc.nd, ?_, PassesOwn.never, hN.symm, hsc.symm, blt, glb, fun j y hy => ?_⟩
        · have := hr.units
          have h2 := hr.un
          show (A.deeper _).units + 3100 < cLine
          omega
        · obtain ⟨g, gd, ps, h1, h2, h3, h4⟩ := fns j y hy
          exact ⟨g, gd, ps, k, h1, h2, hr, h3, h4⟩
      have hfn : X.nox.fn = (fun _ => true) := by subst hX; rfl
      have hK : X.nox.K = K := by subst hX; rfl
      refine ⟨_, (hb X.nox C gd hfn).nox, ?_⟩
      rw [hK]
      refine ⟨μ, startE fn.N.length ds, S, start_ok r, hs, ?_⟩
      have h : Po K μ H ((runB C fn ds S).bind fun d S' => gc S d S') _ := h
      unfold runB at h
      generalize evSs C fn.body (startE fn.N.length ds) S = rr at h
      cases rr with
      | ok fl S' =>
        intro μ' H' e s'
        cases fl with
        | nx ρ => exact fun σ he => gc_ok hs e s' (d := .non) (v := .non) rfl h
        | rt d => exact fun v rv => gc_ok hs e s' rv h
        | bk ρ => exact (h : False).elim
        | ct ρ => exact (h : False).elim
      | exc c fs S' => exact h.elim
      | bad => exact h.elim
    · exact h.elim
end PQ

/-! A whole program. -/
namespace PQ
open PySem PySem.Spec PyProof.Rows L2
/-- a def of the program as it stands behind the top -/
structure DefOk (K : Fg) (mg : Str → Option Value) (T B : List Str) (G : List (Str × Gv)) (fn : Fn) : Prop where
  ex : ∃ (f : Addr) (fd : FuncData) (qual : Str) (ps : List Str) (params : Arguments) (body : List Stmt) (scope : Scope), mg fn.name = some (.ref f) ∧ FunD K fn.name qual params body scope [] [] f fd ∧ FnScope fn.N ps scope ∧ ps.length = fn.ps ∧
    SdSs ⟨T, B, fn.N, scope, G⟩ body fn.body ∧ ∀ (s : Shared) (us : List Value), us.length = ps.length → BindsTo s fd ⟨us, []⟩ (ps.zip us)
theorem binds_of {K : Fg} {fd : FuncData} {ps : List Str} (h : ∀ (s : Shared) (us : List Value), us.length = ps.length → BindsTo s fd ⟨us, []⟩ (ps.zip us)) : Binds K fd ps [] := fun s us _ hl => by
  rw [List.append_nil] at hl ⊢
  exact h s us hl
theorem all_ok {P : Program} {w : World} {K : Fg} {mg : Str → Option Value} {base : Heap} {T : List Fn} {names B : List Str} {Gs : List (Str × Gv)} (hn : T.map (·.name) = names) (hB : ∀ x ∈ B, mg x = none) (hG : ∀ x g, (x, g) ∈ Gs → GvOk K mg x g) (hT : ∀ fn ∈ T, DefOk K mg names B Gs fn) :
    ∀ (k : Nat), k + 190 ≤ 300 → ∀ (i : Nat) fn, T[i]? = some fn → ∃ f fd ps, mg fn.name = some (.ref f) ∧ FnOk P w K mg base CX0 (k + 190) f fd ps (spC K (orc T k) i) ∧ PySem.W.keepIn K (.ref f) = true ∧ Binds K fd ps []
  | 0, _, i, fn, h => by
    obtain ⟨f, fd, qual, ps, params, body, scope, h1, h2, h3, h4, h5, h6⟩ := (hT fn (List.mem_of_getElem? h)).ex
    refine ⟨f, fd, ps, h1, ⟨fun vs H Q E z => ?_, fun A outer s H args us vs Q E hr e0 hb r z => ?_⟩, h2.kp, binds_of h6⟩
    · obtain ⟨μ, ds, S, _, _, z⟩ := z
      exact z.elim
    · obtain ⟨μ, ds, S, _, _, z⟩ := z
      exact z.elim
  | k + 1, hk, i, fn, h => by
    obtain ⟨f, fd, qual, ps, params, body, scope, h1, h2, h3, h4, h5, h6⟩ := (hT fn (List.mem_of_getElem? h)).ex
    exact ⟨f, fd, ps, h1, step k hk i fn h f fd qual ps params body scope h2 h3 h4 h5 (all_ok hn hB hG hT k (by omega)), h2.kp, binds_of h6⟩
where
  step (k : Nat) (hk : k + 1 + 190 ≤ 300) (i : Nat) (fn : Fn) (h : T[i]? = some fn) (f : Addr) (fd : FuncData) (qual : Str) (ps : List Str) (params : Arguments) (body : List Stmt) (scope : Scope) (h2 : FunD K fn.name qual params body scope [] [] f fd) (h3 : FnScope fn.N ps scope) (h4 : ps.length = fn.ps)
      (h5 : SdSs ⟨names, B, fn.N, scope, Gs⟩ body fn.body) (ih : ∀ (i : Nat) fn, T[i]? = some fn → ∃ f fd ps, mg fn.name = some (.ref f) ∧ FnOk P w K mg base CX0 (k + 190) f fd ps (spC K (orc T k) i) ∧ PySem.W.keepIn K (.ref f) = true ∧ Binds K fd ps []) : FnOk P w K mg base CX0 (k + 1 + 190) f fd ps (spC K (orc T (k + 1)) i) := by
    have F := fn_ok (P := P) (w := w) (mg := mg) (base := base) (C := orc T k) (p := ⟨names, B, fn.N, scope, Gs⟩) (fn := fn) (i := i) (k := k + 190) h2 ps h3 h4 rfl rfl h5 (fun _ _ _ z => z) hB hG (fun j y hy => by
      have hy : names[j]? = some y := hy
      rw [← hn, List.getElem?_map] at hy
      cases e : T[j]? with
      | none => rw [e] at hy; cases hy
      | some gn =>
        rw [e] at hy
        cases hy
        obtain ⟨g, gd, qs, k1, k2, k3, k4⟩ := ih j gn e
        exact ⟨g, gd, qs, k1, k2, k3, k4⟩) (by omega)
    refine F.imp fun vs H Q E z => ?_
    obtain ⟨μ, ds, S, s1, s2, s3⟩ := z
    refine ⟨μ, ds, S, s1, s2, ?_⟩
    have e : orc T (k + 1) i ds S = callF (orc T k) fn ds S := by
      show (match T[i]? with
        | some fn => callF (orc T k) fn ds S
        | none => Res.bad) = _
      rw [h]
    rw [e] at s3
    exact s3
/-- a def, from the head's facts and the compiler's word -/
theorem def_ok {K : Fg} {h : Heap} {mg : Str → Option Value} {fn : List He.DefD} {fa : List He.Fa} {names B N ps : List Str} {Gs : List (Str × Gv)} {x : Str} {n : Nat} {body : CSs} (X : K.In h) (G : h.Ns mainGlobals mg) (c : He.SaysD fa fn K) (i : Nat) {st : Stmt} (hd : fn[i]? = some ⟨(x, none), x, x, defArgs st, defBody st, defScope st, [], []⟩) (j : Nat) (hj : fa[j]? = some (.glo x))
    (hc : (cSs 60 60 ⟨names, B, N, defScope st, Gs⟩ (defBody st)).map (·.val) = some body) (hs : FnScope N ps (defScope st)) (hp : ps.length = n)
    (hb : ∀ (kV doc pm : Value) (an : Option Addr) (cdv ct : Value) (us : List Value), us.length = ps.length → bindArgs (PySem.W.fnOf x x (defArgs st) (defBody st) (defScope st) .none kV doc pm an cdv ct) ⟨us, []⟩ = pure (ps.zip us)) : DefOk K mg names B Gs ⟨x, N, n, body⟩ := by
  obtain ⟨fd, F⟩ := c.def_ i (d := ⟨(x, none), x, x, defArgs st, defBody st, defScope st, [], []⟩) hd
  have hm := He.glo_ok X G (c.fact j (f := .glo x) hj)
  cases e : cSs 60 60 ⟨names, B, N, defScope st, Gs⟩ (defBody st) with
  | none => rw [e] at hc; cases hc
  | some r =>
    rw [e] at hc
    have hr : r.val = body := Option.some.inj hc
    exact ⟨_, fd, x, ps, _, _, _, hm, F, hs, hp, by
      rw [← hr]
      exact r.property, fun s us hl => FunD.bindsA F hb s us hl⟩
/-- the law's def: what the language says of it, for every script -/
theorem law_end {l : PySem.W.OpenLaw} {w : World} {K : Fg} {h : Heap} {mg : Str → Option Value} {T : List Fn} {names B : List Str} {Gs : List (Str × Gv)} {fa : Addr} {lawFn : Fn} {i k n : Nat} (KX : K.In h) (hn : T.map (·.name) = names) (hB : ∀ x ∈ B, mg x = none) (hG : ∀ x g, (x, g) ∈ Gs → GvOk K mg x g) (hT : ∀ fn ∈ T, DefOk K mg names B Gs fn)
    (hl : T[i]? = some lawFn) (hx : lawFn.N.take 1 = ([("script" : Str)] : List Str)) (hp : lawFn.ps = 1) (hmg : mg lawFn.name = some (.ref fa)) (hk : k + 1 + 190 ≤ 300) (hns : n ≤ sizeLine)
    (true_ : ∀ ns : List Int, ns.length ≤ n → ∃ S, orc T (k + 1) i [.fix (ns.map .int)] [] = .ok (.bl true) S) :
    ∃ (K : PySem.W.Frag) (fd : FuncData) (sp : Sp), K.In h ∧ (∀ (s : Shared) (u : Value), BindsTo s fd ⟨[u], []⟩ [(("script" : Str), u)]) ∧
        (∀ (H : Hp) (a : Addr) (ns : List Int), ns.length ≤ n → Only H → SqL K H a (ns.map V.int) → sp [.ref a] H (fun v _ => v = .bl true) fun _ _ _ => False) ∧
        ∀ base : Heap, K.In base → base.Ns mainGlobals mg → FnOk l.prog w K mg base CX0 (k + 1 + 190) fa fd ([("script" : Str)] : List Str) sp := by
  obtain ⟨f, fd, qual, ps, params, body, scope, h1, h2, h3, h4, h5, h6⟩ := (hT lawFn (List.mem_of_getElem? hl)).ex
  have ef : fa = f := by
    rw [hmg] at h1
    cases h1
    rfl
  subst ef
  have eps : ps = ([("script" : Str)] : List Str) := by
    have := h3.pre
    rw [h4, hp, hx] at this
    exact this.symm
  subst eps
  refine ⟨K, fd, spC K (orc T (k + 1)) i, KX, fun s u => h6 s [u] rfl, fun H a ns hl' hO hS => ?_, fun base _ _ => all_ok.step hn hB hG 0 k hk i lawFn hl fa fd qual _ params body scope h2 h3 h4 h5 (all_ok hn hB hG hT k (by omega))⟩
  have hf : Fix K H a (ns.map V.int) := by
    rcases hS with (q | ⟨o, q⟩) | q
    · rcases hO a with z | ⟨o, xs, z⟩
      · rw [z] at q; cases q
      · rw [z] at q; cases q
    · exact .inl ⟨o, q⟩
    · exact .inr q
  have hr : ∀ ns : List Int, RpA K [] H (ns.map D.int) (ns.map V.int) := fun ns => by
    induction ns with
    | nil => exact rfl
    | cons x xs ih => exact .cons rfl ih
  obtain ⟨S, hS'⟩ := true_ ns hl'
  refine ⟨[], [.fix (ns.map .int)], [], ⟨rfl, List.nodup_nil, fun i o a e _ => by simp at e⟩, .cons ⟨a, _, rfl, hf, hr ns, by rw [List.length_map]; omega⟩ .nil, ?_⟩
  rw [hS']
  exact fun μ' H' _ _ v rv => rv
end PQ

/-! What a run says, by what is asked of its end. -/
namespace PQ
open PySem PySem.Spec PyProof.Rows L2
/-- it ends well, and then .. -/
def W {α : Type} (r : Res α) (Q : α → Sto → Prop) : Prop := ∃ a S, r = .ok a S ∧ Q a S
section
variable {α β : Type} {Q : α → Sto → Prop} {a : α} {S : Sto}
@[simp] theorem W_ok : W (.ok a S) Q = Q a S := propext ⟨fun ⟨_, _, e, h⟩ => by cases e; exact h, fun h => ⟨_, _, rfl, h⟩⟩
@[simp] theorem W_bad : W (.bad : Res α) Q = False := propext ⟨fun ⟨_, _, e, _⟩ => (nomatch e), False.elim⟩
@[simp] theorem W_exc {c : Str} {fs : List (Str × D)} : W (.exc c fs S : Res α) Q = False := propext ⟨fun ⟨_, _, e, _⟩ => (nomatch e), False.elim⟩
@[simp] theorem W_bind {r : Res β} {f : β → Sto → Res α} : W (r.bind f) Q = W r fun b S => W (f b S) Q := by
  cases r with
  | ok b S => simp [Res.bind]
  | exc c fs S => simp [Res.bind]
  | bad => simp [Res.bind]
@[simp] theorem W_ask {p : Prop} {r : Res α} : W (ask p r) Q = (p ∧ W r Q) := by
  unfold ask
  split <;> rename_i h
  · exact propext ⟨fun x => ⟨h, x⟩, fun x => x.2⟩
  · rw [W_bad]
    exact propext ⟨False.elim, fun x => h x.1⟩
@[simp] theorem may_some {f : β → Res α} {b : β} : may (some b) f = f b := rfl
@[simp] theorem may_none {f : β → Res α} : may none f = .bad := rfl
theorem W_mono {Q' : α → Sto → Prop} {r : Res α} (h : W r Q) (k : ∀ a S, Q a S → Q' a S) : W r Q' := by
  obtain ⟨a, S, e, h⟩ := h
  exact ⟨a, S, e, k _ _ h⟩
theorem W_ite {c : Prop} [Decidable c] {r s : Res α} (h1 : c → W r Q) (h2 : ¬c → W s Q) : W (if c then r else s) Q := by
  split
  · exact h1 ‹_›
  · exact h2 ‹_›
end
/-- a walk: each turn goes on -/
theorem loopS_w {C : Sto → Prop} {f : D → En → Sto → Res Fl} {Q : Fl → Sto → Prop} (I : List D → En → Sto → Prop)
    (h : ∀ d ds ρ S, I (d :: ds) ρ S → C S ∧ W (f d ρ S) fun fl S' => (∃ ρ', (fl = .nx ρ' ∨ fl = .ct ρ') ∧ I ds ρ' S'))
    (h0 : ∀ ρ S, I [] ρ S → C S ∧ Q (.nx ρ) S) : ∀ ds ρ S, I ds ρ S → W (loopS C f ds ρ S) Q
  | [], ρ, S, i => by
    rw [loopS, W_ask, W_ok]
    exact h0 ρ S i
  | d :: ds, ρ, S, i => by
    rw [loopS, W_ask, W_bind]
    obtain ⟨k1, k2⟩ := h d ds ρ S i
    refine ⟨k1, W_mono k2 fun fl S' ⟨ρ', e, k⟩ => ?_⟩
    rcases e with e | e <;> subst e <;> exact loopS_w I h h0 ds ρ' S' k
/-- a comprehension without a test: each item makes one -/
theorem loopQ_w {C : Sto → Prop} {f : D → Sto → Res (Option D)} {Q : List D → Sto → Prop} (I : List D → List D → Sto → Prop)
    (h : ∀ d ds r S, I (d :: ds) r S → C S ∧ W (f d S) fun o S' => I ds (r ++ o.toList) S')
    (h0 : ∀ r S, I [] r S → C S ∧ Q r S) (ds : List D) (S : Sto) (i : I ds [] S) : W (loopQ C f ds S) Q := by
  suffices ∀ (ds r : List D) S, I ds r S → W (loopQ C f ds S) fun x S => Q (r ++ x) S by
    have := this ds [] S i
    simpa using this
  intro ds
  induction ds with
  | nil =>
    intro r S i
    rw [loopQ, W_ask, W_ok, List.append_nil]
    exact h0 r S i
  | cons d ds ih =>
    intro r S i
    rw [loopQ, W_ask, W_bind]
    obtain ⟨k1, k2⟩ := h d ds r S i
    refine ⟨k1, W_mono k2 fun o S' k => ?_⟩
    rw [W_bind]
    refine W_mono (ih _ _ k) fun x S'' q => ?_
    rw [W_ok]
    cases o with
    | none => simpa using q
    | some o => simpa using q
/-- what a def hands back -/
theorem callF_w {C : Orc} {fn : Fn} {ds : List D} {S : Sto} {Q : D → Sto → Prop} (hl : ds.length = fn.ps) (h : W (runB C fn ds S) fun d S' => W (gc S d S') Q) : W (callF C fn ds S) Q := by
  unfold callF
  rw [if_pos hl, W_bind]
  exact h
@[simp] theorem gc_self {S : Sto} {d : D} : gc S d S = .ok d S := by
  unfold gc
  split <;> simp
theorem gc_same {S S' : Sto} {d : D} (h : S'.length = S.length) : gc S d S' = .ok d S' := by
  unfold gc
  split
  · rw [← h, List.take_length]
  · rfl
/-- what stands anew behind the old store, and is not handed back, is forgotten -/
theorem gc_app {S g : Sto} {d : D} (h : below S.length d) : gc S d (S ++ g) = .ok d S := by
  unfold gc
  rw [if_pos]
  · simp
  · refine ⟨h, by simp, fun i o hi e => .inl ?_⟩
    rw [← e, List.getElem?_append_left hi]
end PQ

/-! One step of a run, by its syntax. -/
namespace PQ
open PySem PySem.Spec PyProof.Rows L2
variable {C : Orc} {ρ : En} {S : Sto}
theorem w_var {i : Nat} {d : D} {Q : D → Sto → Prop} (k : ρ[i]? = some (some d))(h : Q d S) : W (evE C (.var i) ρ S) Q := by
  simpa [evE, k] using h
theorem w_lit {d : D} {Q : D → Sto → Prop} (h : Q d S) : W (evE C (.lit d) ρ S) Q := by
  simpa [evE] using h
theorem w_tup {es : CEs} {Q : D → Sto → Prop} (h : W (evEs C es ρ S) fun ds S1 => ds.length ≤ sizeLine ∧ Q (.tup ds) S1) : W (evE C (.tup es) ρ S) Q := by
  simpa [evE] using h
theorem w_alloc {q : CQ} {Q : D → Sto → Prop} (h : W (evQ C q ρ S) fun ds S1 => Q (.ref S1.length) (S1 ++ [.lst ds])) : W (evE C (.alloc q) ρ S) Q := by
  simpa [evE] using h
theorem w_bin {o : Bop} {a b : CE} {Q : D → Sto → Prop} (h : W (evE C a ρ S) fun x S1 => W (evE C b ρ S1) fun y S2 => W (binD o x y S2) Q) : W (evE C (.bin o a b) ρ S) Q := by
  simpa [evE] using h
theorem w_cmp {o : Cop} {a b : CE} {Q : D → Sto → Prop} (h : W (evE C a ρ S) fun x S1 => W (evE C b ρ S1) fun y S2 => W (cmpD o x y S2) Q) : W (evE C (.cmp o a b) ρ S) Q := by
  simpa [evE] using h
noncomputable def chnK (C : Orc) (p : Cop) (c : CE) (ρ : En) (y : D) (z : D) (S3 : Sto) : Res D := match z with
  | .bl true => (evE C c ρ S3).bind fun w S4 => cmpD p y w S4
  | .bl false => .ok (.bl false) S3
  | _ => .bad
theorem w_chn {o p : Cop} {a b c : CE} {Q : D → Sto → Prop} (h : W (evE C a ρ S) fun x S1 => W (evE C b ρ S1) fun y S2 => W (cmpD o x y S2) fun z S3 => W (chnK C p c ρ y z S3) Q) : W (evE C (.chn o p a b c) ρ S) Q := by
  have e : evE C (.chn o p a b c) ρ S = (evE C a ρ S).bind fun x S1 => (evE C b ρ S1).bind fun y S2 => (cmpD o x y S2).bind fun z S3 => chnK C p c ρ y z S3 := rfl
  rw [e]
  simpa only [W_bind] using h
theorem w_chnB {p : Cop} {c : CE} {y : D} {k : Bool} {Q : D → Sto → Prop} (h1 : k = true → W (evE C c ρ S) fun w S4 => W (cmpD p y w S4) Q) (h2 : k = false → Q (.bl false) S) : W (chnK C p c ρ y (.bl k) S) Q := by
  cases k
  · exact (W_ok (Q := Q)).symm ▸ h2 rfl
  · show W (Res.bind _ _) _
    rw [W_bind]
    exact h1 rfl
theorem w_isN {a : CE} {Q : D → Sto → Prop} (h : W (evE C a ρ S) fun x S1 => Q (.bl (isNon x)) S1) : W (evE C (.isN a) ρ S) Q := by
  simpa [evE] using h
theorem w_notN {a : CE} {Q : D → Sto → Prop} (h : W (evE C a ρ S) fun x S1 => Q (.bl (!isNon x)) S1) : W (evE C (.notN a) ρ S) Q := by
  simpa [evE] using h
theorem w_inr {a : CE} {r : CR} {Q : D → Sto → Prop} (h : W (evE C a ρ S) fun x S1 => W (evR C r ρ S1) fun v S2 => W (may (inD x v S2) fun b => .ok (.bl b) S2) Q) : W (evE C (.inr a r) ρ S) Q := by
  simpa [evE] using h
theorem w_notInr {a : CE} {r : CR} {Q : D → Sto → Prop} (h : W (evE C a ρ S) fun x S1 => W (evR C r ρ S1) fun v S2 => W (may (inD x v S2) fun b => .ok (.bl (!b)) S2) Q) : W (evE C (.notInr a r) ρ S) Q := by
  simpa [evE] using h
theorem w_and {a b : CE} {Q : D → Sto → Prop} (h : W (evE C a ρ S) fun x S1 => W (may (tru S1 x) fun k => if k = true then evE C b ρ S1 else .ok x S1) Q) : W (evE C (.and a b) ρ S) Q := by
  simpa [evE] using h
theorem w_or {a b : CE} {Q : D → Sto → Prop} (h : W (evE C a ρ S) fun x S1 => W (may (tru S1 x) fun k => if k = true then .ok x S1 else evE C b ρ S1) Q) : W (evE C (.or a b) ρ S) Q := by
  simpa [evE] using h
theorem w_not {a : CE} {Q : D → Sto → Prop} (h : W (evE C a ρ S) fun x S1 => W (may (tru S1 x) fun k => .ok (.bl (!k)) S1) Q) : W (evE C (.not a) ρ S) Q := by
  simpa [evE] using h
theorem w_ife {t : CT} {a b : CE} {Q : D → Sto → Prop} (h : W (evT C t ρ S) fun k S1 => W (if k = true then evE C a ρ S1 else evE C b ρ S1) Q) : W (evE C (.ife t a b) ρ S) Q := by
  simpa [evE] using h
theorem w_idx {a b : CE} {Q : D → Sto → Prop} (h : W (evE C a ρ S) fun x S1 => W (evE C b ρ S1) fun y S2 => W (idxD x y S2) Q) : W (evE C (.idx a b) ρ S) Q := by
  simpa [evE] using h
theorem w_slc {a : CE} {lo hi : CO} {Q : D → Sto → Prop} (h : W (evE C a ρ S) fun x S1 => W (evO C lo ρ S1) fun l S2 => W (evO C hi ρ S2) fun u S3 => W (slcD x l u S3) Q) : W (evE C (.slc a lo hi) ρ S) Q := by
  simpa [evE] using h
theorem w_call {f : Nat} {es : CEs} {Q : D → Sto → Prop} (h : W (evEs C es ρ S) fun ds S1 => W (C f ds S1) Q) : W (evE C (.call f es) ρ S) Q := by
  simpa [evE] using h
theorem w_fn1 {f : F1} {a : CE} {Q : D → Sto → Prop} (h : W (evE C a ρ S) fun x S1 => W (fn1D f x S1) Q) : W (evE C (.fn1 f a) ρ S) Q := by
  simpa [evE] using h
theorem w_fn2 {f : F2} {a b : CE} {Q : D → Sto → Prop} (h : W (evE C a ρ S) fun x S1 => W (evE C b ρ S1) fun y S2 => W (fn2D f x y S2) Q) : W (evE C (.fn2 f a b) ρ S) Q := by
  simpa [evE] using h
theorem w_agg {f : Ag} {r : CR} {Q : D → Sto → Prop} (h : W (evR C r ρ S) fun v S1 => W (aggD f v S1) Q) : W (evE C (.agg f r) ρ S) Q := by
  simpa [evE] using h
theorem w_isi {a : CE} {t : Ty} {Q : D → Sto → Prop} (h : W (evE C a ρ S) fun x S1 => W (may (tyB t S1 x) fun b => .ok (.bl b) S1) Q) : W (evE C (.isi a t) ρ S) Q := by
  simpa [evE] using h
theorem w_app {l x : CE} {Q : D → Sto → Prop} (h : W (evE C l ρ S) fun o S1 => W (withL S1 o fun _ _ => (evE C x ρ S1).bind fun v S2 => appD o v S2) Q) : W (evE C (.app l x) ρ S) Q := by
  simpa [evE] using h
theorem w_ext {l : CE} {r : CR} {Q : D → Sto → Prop} (h : W (evE C l ρ S) fun o S1 => W (withL S1 o fun _ _ => (evR C r ρ S1).bind fun v S2 => extD o v S2) Q) : W (evE C (.ext l r) ρ S) Q := by
  simpa [evE] using h
theorem w_pop {l : CE} {Q : D → Sto → Prop} (h : W (evE C l ρ S) fun o S1 => W (popD o S1) Q) : W (evE C (.pop l) ρ S) Q := by
  simpa [evE] using h
theorem w_popAt {l i : CE} {Q : D → Sto → Prop} (h : W (evE C l ρ S) fun o S1 => W (withL S1 o fun _ _ => (evE C i ρ S1).bind fun v S2 => popAtD o v S2) Q) : W (evE C (.popAt l i) ρ S) Q := by
  simpa [evE] using h
theorem w_join {s : Str} {r : CR} {Q : D → Sto → Prop} (h : W (evR C r ρ S) fun v S1 => W (may (sqOf S1 v) fun ds => may (strsOf ds) fun ys => ask ((ys.map (·.length)).sum + ys.length * s.length ≤ 16777216) (.ok (.str (Txt.join s ys)) S1)) Q) : W (evE C (.join s r) ρ S) Q := by
  simpa [evE] using h
noncomputable def tixK (C : Orc) (b : CE) (ρ : En) (x : D) (S1 : Sto) : Res D := match x with
  | .tup ds => (evE C b ρ S1).bind fun y S2 => tixD ds y S2
  | .ref j => withL S1 (.ref j) fun _ _ => (evE C b ρ S1).bind fun y S2 => may (ixD (.ref j) y S2) fun n => .ok (.int (n : Nat)) S2
  | _ => .bad
theorem w_ins {l i x : CE} {Q : D → Sto → Prop} (h : W (evE C l ρ S) fun o S1 => W (withL S1 o fun _ _ => (evE C i ρ S1).bind fun y S2 => (evE C x ρ S2).bind fun v S3 => insD o y v S3) Q) : W (evE C (.ins l i x) ρ S) Q := by
  simpa [evE] using h
theorem w_tix {a b : CE} {Q : D → Sto → Prop} (h : W (evE C a ρ S) fun x S1 => W (tixK C b ρ x S1) Q) : W (evE C (.tix a b) ρ S) Q := by
  have e : evE C (.tix a b) ρ S = (evE C a ρ S).bind fun x S1 => tixK C b ρ x S1 := by
    rw [evE]
    rfl
  rw [e, W_bind]
  exact h
theorem v_tixT {b : CE} {ds : List D} {Q : D → Sto → Prop} (h : W (evE C b ρ S) fun y S2 => W (tixD ds y S2) Q) : W (tixK C b ρ (.tup ds) S) Q := by
  show W (Res.bind _ _) _
  rw [W_bind]
  exact h
theorem v_tixR {b : CE} {j : Nat} {ds : List D} {Q : D → Sto → Prop} (k : S[j]? = some (.lst ds)) (h : W (evE C b ρ S) fun y S2 => W (may (ixD (.ref j) y S2) fun n => .ok (.int (n : Nat)) S2) Q) : W (tixK C b ρ (.ref j) S) Q := by
  have e : tixK C b ρ (.ref j) S = (evE C b ρ S).bind fun y S2 => may (ixD (.ref j) y S2) fun n => .ok (.int (n : Nat)) S2 := by
    unfold tixK
    simp only [withL, k]
  rw [e, W_bind]
  exact h
theorem w_neg {a : CE} {Q : D → Sto → Prop} (h : W (evE C a ρ S) fun x S1 => ∃ i, x = .int i ∧ Q (.int (-i)) S1) : W (evE C (.neg a) ρ S) Q := by
  simp only [evE, W_bind]
  refine W_mono h fun x S1 ⟨i, e, k⟩ => ?_
  subst e
  simpa using k
theorem w_oN {Q : Option Int → Sto → Prop} (h : Q none S) : W (evO C (.none) ρ S) Q := by
  simpa [evO] using h
theorem w_oS {a : CE} {Q : Option Int → Sto → Prop} (h : W (evE C a ρ S) fun x S1 => ∃ i, x = .int i ∧ Q (some i) S1) : W (evO C (.some a) ρ S) Q := by
  simp only [evO, W_bind]
  refine W_mono h fun x S1 ⟨i, e, k⟩ => ?_
  subst e
  simpa using k
theorem w_nil {Q : List D → Sto → Prop} (h : Q [] S) : W (evEs C (.nil) ρ S) Q := by
  simpa [evEs] using h
theorem w_cons {a : CE} {r : CEs} {Q : List D → Sto → Prop} (h : W (evE C a ρ S) fun d S1 => W (evEs C r ρ S1) fun ds S2 => Q (d :: ds) S2) : W (evEs C (.cons a r) ρ S) Q := by
  simpa [evEs] using h
theorem w_disp {es : CEs} {Q : List D → Sto → Prop} (h : W (evEs C es ρ S) fun ds S1 => ds.length ≤ sizeLine ∧ Q ds S1) : W (evQ C (.disp es) ρ S) Q := by
  simpa [evQ] using h
theorem w_comp {own : List Nat} {g : CN} {it : CI} {elt : CE} {Q : List D → Sto → Prop} (h : W (evI C it ρ S) fun t S1 => t.items.length ≤ sizeLine ∧ W (loopQ t.still (fun d S2 => may (bindN g d (wipeE ρ own) S2) fun ρ' => (evE C elt ρ' S2).bind fun x S3 => .ok (some x) S3) t.items S1) Q) : W (evQ C (.comp own g it elt) ρ S) Q := by
  simpa [evQ] using h
theorem w_compIf {own : List Nat} {g : CN} {it : CI} {c : CT} {elt : CE} {Q : List D → Sto → Prop} (h : W (evI C it ρ S) fun t S1 => t.items.length ≤ sizeLine ∧ W (loopQ t.still (fun d S2 => may (bindN g d (wipeE ρ own) S2) fun ρ' => (evT C c ρ' S2).bind fun k S3 => if k = true then (evE C elt ρ' S3).bind fun x S4 => .ok (some x) S4 else .ok none S3) t.items S1) Q) : W (evQ C (.compIf own g it c elt) ρ S) Q := by
  simpa [evQ] using h
theorem w_cat {a b : CR} {Q : List D → Sto → Prop} (h : W (evR C a ρ S) fun v S1 => W (evR C b ρ S1) fun w S2 => W (may (trOf S2 v) fun x => may (trOf S2 w) fun y => ask (x.length + y.length ≤ sizeLine) (.ok (x ++ y) S2)) Q) : W (evQ C (.cat a b) ρ S) Q := by
  simpa [evQ] using h
theorem w_sorted {r : CR} {Q : List D → Sto → Prop} (h : W (evR C r ρ S) fun v S1 => W (may (soOf S1 v) fun ds => sortD S1 ds) Q) : W (evQ C (.sorted r) ρ S) Q := by
  simpa [evQ] using h
theorem w_list {r : CR} {Q : List D → Sto → Prop} (h : W (evR C r ρ S) fun v S1 => W (may (lstOf S1 v) fun ds => .ok ds S1) Q) : W (evQ C (.list r) ρ S) Q := by
  simpa [evQ] using h
theorem w_rev {r : CR} {Q : List D → Sto → Prop} (h : W (evR C r ρ S) fun v S1 => W (may (lsOf S1 v) fun ds => .ok ds.reverse S1) Q) : W (evQ C (.rev r) ρ S) Q := by
  simpa [evQ] using h
theorem w_listRg {a b : CE} {Q : List D → Sto → Prop} (h : W (evE C a ρ S) fun x S1 => W (evE C b ρ S1) fun y S2 => ∃ i j, x = .int i ∧ y = .int j ∧ RgOk i j ∧ Q (rgD i j) S2) : W (evQ C (.listRg a b) ρ S) Q := by
  simp only [evQ, W_bind]
  refine W_mono h fun x S1 h => W_mono h fun y S2 ⟨i, j, e1, e2, k⟩ => ?_
  subst e1 e2
  simpa using k
theorem w_q {c : CQ} {Q : RV → Sto → Prop} (h : W (evQ C c ρ S) fun ds S1 => Q (.own ds) S1) : W (evR C (.q c) ρ S) Q := by
  simpa [evR] using h
theorem w_e {c : CE} {Q : RV → Sto → Prop} (h : W (evE C c ρ S) fun d S1 => Q (.val d) S1) : W (evR C (.e c) ρ S) Q := by
  simpa [evR] using h
theorem w_ir {c : CR} {Q : Itv → Sto → Prop} (h : W (evR C c ρ S) fun v S1 => W (may (itOf v S1) fun t => .ok t S1) Q) : W (evI C (.r c) ρ S) Q := by
  simpa [evI] using h
theorem w_rg {a b : CE} {Q : Itv → Sto → Prop} (h : W (evE C a ρ S) fun x S1 => W (evE C b ρ S1) fun y S2 => ∃ i j, x = .int i ∧ y = .int j ∧ (bd62 i ∧ bd62 j) ∧ Q ⟨rgD i j, none⟩ S2) : W (evI C (.rg a b) ρ S) Q := by
  simp only [evI, W_bind]
  refine W_mono h fun x S1 h => W_mono h fun y S2 ⟨i, j, e1, e2, k⟩ => ?_
  subst e1 e2
  simpa using k
theorem w_rgd {a b : CE} {Q : Itv → Sto → Prop} (h : W (evE C a ρ S) fun x S1 => W (evE C b ρ S1) fun y S2 => ∃ i j, x = .int i ∧ y = .int j ∧ (bd62 i ∧ bd62 j) ∧ Q ⟨rgdD i j, none⟩ S2) : W (evI C (.rgd a b) ρ S) Q := by
  simp only [evI, W_bind]
  refine W_mono h fun x S1 h => W_mono h fun y S2 ⟨i, j, e1, e2, k⟩ => ?_
  subst e1 e2
  simpa using k
theorem w_tv {e : CE} {Q : Bool → Sto → Prop} (h : W (evE C e ρ S) fun x S1 => W (may (tru S1 x) fun k => .ok k S1) Q) : W (evT C (.v e) ρ S) Q := by
  simpa [evT] using h
theorem w_tand {a b : CT} {Q : Bool → Sto → Prop} (h : W (evT C a ρ S) fun k S1 => W (if k = true then evT C b ρ S1 else .ok false S1) Q) : W (evT C (.and a b) ρ S) Q := by
  simpa [evT] using h
theorem w_tor {a b : CT} {Q : Bool → Sto → Prop} (h : W (evT C a ρ S) fun k S1 => W (if k = true then .ok true S1 else evT C b ρ S1) Q) : W (evT C (.or a b) ρ S) Q := by
  simpa [evT] using h
theorem w_tnot {a : CT} {Q : Bool → Sto → Prop} (h : W (evT C a ρ S) fun k S1 => Q (!k) S1) : W (evT C (.not a) ρ S) Q := by
  simpa [evT] using h
theorem w_set {i : Nat} {e : CE} {Q : Fl → Sto → Prop} (h : W (evE C e ρ S) fun d S1 => Q (.nx (ρ.set i (some d))) S1) : W (evS C (.set (.nm i) e) ρ S) Q := by
  simpa [evS, bindN] using h
theorem w_setT {is : List Nat} {e : CE} {Q : Fl → Sto → Prop} (h : W (evE C e ρ S) fun d S1 => W (may (bindN (.tup is) d ρ S1) fun ρ' => .ok (.nx ρ') S1) Q) : W (evS C (.set (.tup is) e) ρ S) Q := by
  simpa [evS] using h
theorem w_par {i j : Nat} {a b : CE} {Q : Fl → Sto → Prop} (h : W (evE C a ρ S) fun x S1 => W (evE C b ρ S1) fun y S2 => Q (.nx ((ρ.set i (some x)).set j (some y))) S2) : W (evS C (.par i j a b) ρ S) Q := by
  simpa [evS] using h
theorem w_sub {o i e : CE} {Q : Fl → Sto → Prop} (h : W (evE C e ρ S) fun d S1 => W (evE C o ρ S1) fun x S2 => W (evE C i ρ S2) fun y S3 => W (setD x y d S3) fun _ S4 => Q (.nx ρ) S4) : W (evS C (.sub o i e) ρ S) Q := by
  simpa [evS] using h
theorem w_aug {i : Nat} {p : Bop} {e : CE} {d : D} {Q : Fl → Sto → Prop} (k : ρ[i]? = some (some d))(h : W (evE C e ρ S) fun y S1 => W (augD p d y S1) fun z S2 => Q (.nx (ρ.set i (some z))) S2) : W (evS C (.aug i p e) ρ S) Q := by
  simpa [evS, k] using h
def augK (C : Orc) (ρ : En) (p : Bop) (e : CE) (x y : D) (S2 : Sto) (Q : Fl → Sto → Prop) : Prop := W (getD x y S2) fun v S3 => W (evE C e ρ S3) fun w S4 => W (augD p v w S4) fun z S5 => W (setD x y z S5) fun _ S6 => Q (.nx ρ) S6
theorem w_augS {o i e : CE} {p : Bop} {Q : Fl → Sto → Prop} (h : W (evE C o ρ S) fun x S1 => W (evE C i ρ S1) fun y S2 => augK C ρ p e x y S2 Q) : W (evS C (.augS o i p e) ρ S) Q := by
  simp only [evS, W_bind, W_ok]
  exact h
theorem w_augK {e : CE} {p : Bop} {Q : Fl → Sto → Prop} {a : Nat} {ds : List D} {j : Int} {v : D} (k1 : S[a]? = some (.lst ds)) (k2 : atI ds j = some v) (h : W (evE C e ρ S) fun w S4 => W (augD p v w S4) fun z S5 => W (setD (.ref a) (.int j) z S5) fun _ S6 => Q (.nx ρ) S6) : augK C ρ p e (.ref a) (.int j) S Q := by
  unfold augK
  simpa [getD, idxD, k1, k2] using h
/-- the same of a dict -/
theorem w_augD {e : CE} {p : Bop} {Q : Fl → Sto → Prop} {a : Nat} {ks : List (Key × D)} {x v : D} {k : Key} (k1 : S[a]? = some (.dic ks)) (k2 : keyOf x = some k) (k3 : gD ks k = some v) (h : W (evE C e ρ S) fun w S4 => W (augD p v w S4) fun z S5 => W (setD (.ref a) x z S5) fun _ S6 => Q (.nx ρ) S6) : augK C ρ p e (.ref a) x S Q := by
  unfold augK
  cases x <;> first | (cases k2; done) | (cases k2; simpa [getD, idxD, k1, k3] using h)
theorem w_raise {Q : Fl → Sto → Prop} (h : False) : W (evS C .raise ρ S) Q := h.elim
theorem w_ex {e : CE} {Q : Fl → Sto → Prop} (h : W (evE C e ρ S) fun _ S1 => Q (.nx ρ) S1) : W (evS C (.ex e) ρ S) Q := by
  simpa [evS] using h
theorem w_ret {e : CE} {Q : Fl → Sto → Prop} (h : W (evE C e ρ S) fun d S1 => Q (.rt d) S1) : W (evS C (.ret e) ρ S) Q := by
  simpa [evS] using h
theorem w_ite {t : CT} {a b : CSs} {Q : Fl → Sto → Prop} (h : W (evT C t ρ S) fun k S1 => W (if k = true then evSs C a ρ S1 else evSs C b ρ S1) Q) : W (evS C (.ite t a b) ρ S) Q := by
  simpa [evS] using h
theorem w_for {g : CN} {it : CI} {b : CSs} {Q : Fl → Sto → Prop} (h : W (evI C it ρ S) fun t S1 => W (loopS t.still (fun d ρ1 S2 => may (bindN g d ρ1 S2) fun ρ2 => evSs C b ρ2 S2) t.items ρ S1) Q) : W (evS C (.for g it b) ρ S) Q := by
  simpa [evS] using h
theorem w_while {t : CT} {b : CSs} {Q : Fl → Sto → Prop} (h : W (whileS (evT C t) (evSs C b) turns ρ S) Q) : W (evS C (.while t b) ρ S) Q := by
  simpa [evS] using h
theorem w_brk {Q : Fl → Sto → Prop} (h : Q (.bk ρ) S) : W (evS C (.brk) ρ S) Q := by
  simpa [evS] using h
theorem w_cont {Q : Fl → Sto → Prop} (h : Q (.ct ρ) S) : W (evS C (.cont) ρ S) Q := by
  simpa [evS] using h
theorem w_pass {Q : Fl → Sto → Prop} (h : Q (.nx ρ) S) : W (evS C (.pass) ρ S) Q := by
  simpa [evS] using h
theorem w_snil {Q : Fl → Sto → Prop} (h : Q (.nx ρ) S) : W (evSs C (.nil) ρ S) Q := by
  simpa [evSs] using h
noncomputable def seqK (C : Orc) (r : CSs) (fl : Fl) (S1 : Sto) : Res Fl := match fl with
  | .nx ρ' => evSs C r ρ' S1
  | f => .ok f S1
theorem w_scons {s : CS} {r : CSs} {Q : Fl → Sto → Prop} (h : W (evS C s ρ S) fun fl S1 => W (seqK C r fl S1) Q) : W (evSs C (.cons s r) ρ S) Q := by
  have e : evSs C (.cons s r) ρ S = (evS C s ρ S).bind fun fl S1 => seqK C r fl S1 := rfl
  rw [e, W_bind]
  exact h
theorem w_nx {r : CSs} {Q : Fl → Sto → Prop} (h : W (evSs C r ρ S) Q) : W (seqK C r (.nx ρ) S) Q := h
theorem w_rt {r : CSs} {d : D} {Q : Fl → Sto → Prop} (h : Q (.rt d) S) : W (seqK C r (.rt d) S) Q := w_mk h where
  w_mk {fl : Fl} (h : Q fl S) : W (.ok fl S) Q := (W_ok (Q := Q)).symm ▸ h
theorem w_bk {r : CSs} {Q : Fl → Sto → Prop} (h : Q (.bk ρ) S) : W (seqK C r (.bk ρ) S) Q := (W_ok (Q := Q)).symm ▸ h
theorem w_ct {r : CSs} {Q : Fl → Sto → Prop} (h : Q (.ct ρ) S) : W (seqK C r (.ct ρ) S) Q := (W_ok (Q := Q)).symm ▸ h
theorem v_add {i j : Int} {Q : D → Sto → Prop} (h : Q (.int (i + j)) S) : W (binD .add (.int i) (.int j) S) Q := by
  simpa [binD] using h
theorem v_sub {i j : Int} {Q : D → Sto → Prop} (h : Q (.int (i - j)) S) : W (binD .sub (.int i) (.int j) S) Q := by
  simpa [binD] using h
theorem v_band {i j : Int} {Q : D → Sto → Prop} (h : Q (.int (Builtin.bitAnd i j)) S) : W (binD .band (.int i) (.int j) S) Q := by
  simpa [binD] using h
theorem v_bor {i j : Int} {Q : D → Sto → Prop} (h : Q (.int (Builtin.bitOr i j)) S) : W (binD .bor (.int i) (.int j) S) Q := by
  simpa [binD] using h
theorem v_bxor {i j : Int} {Q : D → Sto → Prop} (h : Q (.int (Builtin.bitXor i j)) S) : W (binD .bxor (.int i) (.int j) S) Q := by
  simpa [binD] using h
theorem v_mul {i j : Int} {Q : D → Sto → Prop} (k : IntMulOk i j) (h : Q (.int (i * j)) S) : W (binD .mul (.int i) (.int j) S) Q := by
  simpa [binD, k] using h
theorem v_fdiv {i j : Int} {Q : D → Sto → Prop} (k : FDivOk i j) (h : Q (.int (i.fdiv j)) S) : W (binD .fdiv (.int i) (.int j) S) Q := by
  simpa [binD, k] using h
theorem v_mod {i j : Int} {Q : D → Sto → Prop} (k : j ≠ 0) (h : Q (.int (i.fmod j)) S) : W (binD .mod (.int i) (.int j) S) Q := by
  simpa [binD, k] using h
theorem v_pow {i j : Int} {Q : D → Sto → Prop} (k : CPow i j) (h : Q (.int (i ^ j.toNat)) S) : W (binD .pow (.int i) (.int j) S) Q := by
  simpa [binD, k] using h
theorem v_shl {i j : Int} {Q : D → Sto → Prop} (k : CPow i j) (h : Q (.int (i * 2 ^ j.toNat)) S) : W (binD .shl (.int i) (.int j) S) Q := by
  simpa [binD, k] using h
theorem v_shr {i j : Int} {Q : D → Sto → Prop} (k : 0 ≤ j) (h : Q (.int (i / 2 ^ j.toNat)) S) : W (binD .shr (.int i) (.int j) S) Q := by
  simpa [binD, k] using h
theorem v_addT {a b : List D} {Q : D → Sto → Prop} (k : a.length + b.length ≤ sizeLine) (h : Q (.tup (a ++ b)) S) : W (binD .add (.tup a) (.tup b) S) Q := by
  simpa [binD, k] using h
theorem v_addS {a b : Str} {Q : D → Sto → Prop} (k : a.length + b.length ≤ sizeLine) (h : Q (.str (a ++ b)) S) : W (binD .add (.str a) (.str b) S) Q := by
  simpa [binD, k] using h
theorem v_addL {i j : Nat} {a b : List D} {Q : D → Sto → Prop} (k1 : S[i]? = some (.lst a)) (k2 : S[j]? = some (.lst b)) (k : a.length + b.length ≤ sizeLine) (h : Q (.ref S.length) (S ++ [.lst (a ++ b)])) : W (binD .add (.ref i) (.ref j) S) Q := by
  simpa [binD, k, k1, k2] using h
theorem v_augAdd {i j : Int} {Q : D → Sto → Prop} (h : Q (.int (i + j)) S) : W (augD .add (.int i) (.int j) S) Q := by
  simpa [augD] using h
theorem v_augSub {i j : Int} {Q : D → Sto → Prop} (h : Q (.int (i - j)) S) : W (augD .sub (.int i) (.int j) S) Q := by
  simpa [augD] using h
theorem v_ordD {o : Cop} {x y : D} {p q : PyData} {Q : D → Sto → Prop} (hx : toP S x = some p) (hy : toP S y = some q) (hc : cmpOk p q = true) (h : Q (.bl (ordP o p q)) S) : W (ordD o x y S) Q := by
  unfold ordD
  rw [hx, hy]
  simpa [hc] using h
theorem v_lt {i j : Int} {Q : D → Sto → Prop} (h : Q (.bl (decide (i < j))) S) : W (cmpD .lt (.int i) (.int j) S) Q := by
  simpa [cmpD, cmpI] using h
theorem v_le {i j : Int} {Q : D → Sto → Prop} (h : Q (.bl (decide (i ≤ j))) S) : W (cmpD .le (.int i) (.int j) S) Q := by
  simpa [cmpD, cmpI] using h
theorem v_gt {i j : Int} {Q : D → Sto → Prop} (h : Q (.bl (decide (j < i))) S) : W (cmpD .gt (.int i) (.int j) S) Q := by
  simpa [cmpD, cmpI] using h
theorem v_ge {i j : Int} {Q : D → Sto → Prop} (h : Q (.bl (decide (j ≤ i))) S) : W (cmpD .ge (.int i) (.int j) S) Q := by
  simpa [cmpD, cmpI] using h
theorem v_eq {i j : Int} {Q : D → Sto → Prop} (h : Q (.bl (decide (i = j))) S) : W (cmpD .eq (.int i) (.int j) S) Q := by
  simpa [cmpD, dEq, scalD, eqSc] using h
theorem v_ne {i j : Int} {Q : D → Sto → Prop} (h : Q (.bl (!decide (i = j))) S) : W (cmpD .ne (.int i) (.int j) S) Q := by
  simpa [cmpD, dEq, scalD, eqSc] using h
theorem v_eqS {i j : Str} {Q : D → Sto → Prop} (h : Q (.bl (decide (i = j))) S) : W (cmpD .eq (.str i) (.str j) S) Q := by
  simpa [cmpD, dEq, scalD, eqSc] using h
theorem v_neS {i j : Str} {Q : D → Sto → Prop} (h : Q (.bl (!decide (i = j))) S) : W (cmpD .ne (.str i) (.str j) S) Q := by
  simpa [cmpD, dEq, scalD, eqSc] using h
theorem v_eqB {i j : Bool} {Q : D → Sto → Prop} (h : Q (.bl (decide (i = j))) S) : W (cmpD .eq (.bl i) (.bl j) S) Q := by
  simpa [cmpD, dEq, scalD, eqSc] using h
theorem v_intI {i : Int} {Q : D → Sto → Prop} (h : Q (.int i) S) : W (fn1D .int (.int i) S) Q := by
  simpa [fn1D] using h
theorem v_intB {b : Bool} {Q : D → Sto → Prop} (h : Q (.int (if b = true then 1 else 0)) S) : W (fn1D .int (.bl b) S) Q := by
  simpa [fn1D] using h
theorem v_abs {i : Int} {Q : D → Sto → Prop} (h : Q (.int (if i < 0 then -i else i)) S) : W (fn1D .abs (.int i) S) Q := by
  simpa [fn1D] using h
theorem v_str {i : Int} {Q : D → Sto → Prop} (k : i.natAbs.log2 < 1920) (h : Q (.str (toString i)) S) : W (fn1D .str (.int i) S) Q := by
  simpa [fn1D, k] using h
theorem v_gcd {i j : Int} {Q : D → Sto → Prop} (h : Q (.int ((Nat.gcd i.natAbs j.natAbs : Nat) : Int)) S) : W (fn2D .gcd (.int i) (.int j) S) Q := by
  simpa [fn2D] using h
theorem v_min2 {i j : Int} {Q : D → Sto → Prop} (h : Q (.int (if j < i then j else i)) S) : W (fn2D .min (.int i) (.int j) S) Q := by
  simpa [fn2D] using h
theorem v_max2 {i j : Int} {Q : D → Sto → Prop} (h : Q (.int (if j > i then j else i)) S) : W (fn2D .max (.int i) (.int j) S) Q := by
  simpa [fn2D] using h
theorem v_idx {a : Nat} {ds : List D} {i : Int} {d : D} {Q : D → Sto → Prop} (k1 : S[a]? = some (.lst ds)) (k2 : atI ds i = some d) (h : Q d S) : W (idxD (.ref a) (.int i) S) Q := by
  simpa [idxD, k1, k2] using h
theorem v_idxT {ds : List D} {i : Int} {d : D} {Q : D → Sto → Prop} (k2 : atI ds i = some d) (h : Q d S) : W (idxD (.tup ds) (.int i) S) Q := by
  simpa [idxD, k2] using h
theorem v_idxF {ds : List D} {i : Int} {d : D} {Q : D → Sto → Prop} (k2 : atI ds i = some d) (h : Q d S) : W (idxD (.fix ds) (.int i) S) Q := by
  simpa [idxD, k2] using h
theorem v_slc {a : Nat} {ds : List D} {lo hi : Option Int} {Q : D → Sto → Prop} (k1 : S[a]? = some (.lst ds)) (h : Q (.ref S.length) (S ++ [.lst (cutD ds lo hi)])) : W (slcD (.ref a) lo hi S) Q := by
  simpa [slcD, k1] using h
theorem v_slcT {ds : List D} {lo hi : Option Int} {Q : D → Sto → Prop} (h : Q (.tup (cutD ds lo hi)) S) : W (slcD (.tup ds) lo hi S) Q := by
  simpa [slcD] using h
theorem v_app {a : Nat} {ds : List D} {v : D} {Q : D → Sto → Prop} (k1 : S[a]? = some (.lst ds)) (k2 : ds.length < sizeLine) (h : Q .non (S.set a (.lst (ds ++ [v])))) : W (appD (.ref a) v S) Q := by
  simpa [appD, withL, k1, k2] using h
theorem v_len {v : RV} {ds : List D} {Q : D → Sto → Prop} (k : sqOf S v = some ds) (h : Q (.int ds.length) S) : W (aggD .len v S) Q := by
  have e : aggD .len v S = .ok (.int ds.length) S := by
    cases v with
    | own xs =>
      have e : aggD .len (.own xs) S = .ok (.int xs.length) S := rfl
      cases k
      exact e
    | val d =>
      cases d with
      | str z => simp [sqOf, lsOf] at k
      | non => simp [sqOf, lsOf] at k
      | bl z => simp [sqOf, lsOf] at k
      | int z => simp [sqOf, lsOf] at k
      | tup z =>
        have e : aggD .len (.val (.tup z)) S = .ok (.int z.length) S := rfl
        cases k
        exact e
      | fix z =>
        have e : aggD .len (.val (.fix z)) S = .ok (.int z.length) S := rfl
        cases k
        exact e
      | ref z =>
        have e : aggD .len (.val (.ref z)) S = may (lenOf S (.val (.ref z))) fun n => .ok (.int n) S := rfl
        unfold lenOf at e
        rw [e, k]
        rfl
  rw [e, W_ok]
  exact h
theorem v_tuple {v : RV} {ds : List D} {Q : D → Sto → Prop} (k : sqOf S v = some ds) (h : Q (.tup ds) S) : W (aggD .tuple v S) Q := by
  simpa [aggD, k] using h
theorem v_sum {v : RV} {ds : List D} {ns : List Int} {Q : D → Sto → Prop} (k : lsOf S v = some ds) (k2 : intsOf ds = some ns) (h : Q (.int ns.sum) S) : W (aggD .sum v S) Q := by
  simpa [aggD, k, k2] using h
theorem v_all {v : RV} {ds : List D} {bs : List Bool} {Q : D → Sto → Prop} (k : lsOf S v = some ds) (k2 : boolsOf ds = some bs) (h : Q (.bl (bs.all id)) S) : W (aggD .all v S) Q := by
  simpa [aggD, k, k2] using h
theorem v_any {v : RV} {ds : List D} {bs : List Bool} {Q : D → Sto → Prop} (k : lsOf S v = some ds) (k2 : boolsOf ds = some bs) (h : Q (.bl (bs.any id)) S) : W (aggD .any v S) Q := by
  simpa [aggD, k, k2] using h
theorem v_max {v : RV} {ds : List D} {ns : List Int} {m : Int} {Q : D → Sto → Prop} (k : lsOf S v = some ds) (k2 : intsOf ds = some ns) (k3 : greatest ns = some m) (h : Q (.int m) S) : W (aggD .max v S) Q := by
  simpa [aggD, k, k2, k3] using h
theorem v_min {v : RV} {ds : List D} {ns : List Int} {m : Int} {Q : D → Sto → Prop} (k : lsOf S v = some ds) (k2 : intsOf ds = some ns) (k3 : least ns = some m) (h : Q (.int m) S) : W (aggD .min v S) Q := by
  simpa [aggD, k, k2, k3] using h
theorem v_set {a : Nat} {ds : List D} {i : Int} {j : Nat} {v : D} {Q : Unit → Sto → Prop} (k1 : S[a]? = some (.lst ds)) (k2 : ixN ds.length i = some j) (h : Q () (S.set a (.lst (ds.set j v)))) : W (setD (.ref a) (.int i) v S) Q := by
  simpa [setD, isDic, withL, k1, k2] using h
theorem v_addB {i : Int} {b : Bool} {Q : D → Sto → Prop} (h : Q (.int (i + if b = true then 1 else 0)) S) : W (binD .add (.int i) (.bl b) S) Q := by
  simpa [binD] using h
theorem v_mulS {a : Str} {k : Int} {Q : D → Sto → Prop} (z : MulOk a k) (h : Q (.str (Txt.mul a k)) S) : W (binD .mul (.str a) (.int k) S) Q := by
  simpa [binD, z] using h
theorem w_dnew {Q : D → Sto → Prop} (h : Q (.ref S.length) (S ++ [.dic []])) : W (evE C .dnew ρ S) Q := by
  simpa [evE] using h
theorem w_dget {a k x : CE} {Q : D → Sto → Prop} (h : W (evE C a ρ S) fun o S1 => W (withD S1 o fun _ _ => (evE C k ρ S1).bind fun y S2 => (evE C x ρ S2).bind fun z S3 => dgetD o y z S3) Q) : W (evE C (.dget a k x) ρ S) Q := by
  simpa [evE] using h
theorem v_dget {a : Nat} {ks : List (Key × D)} {x y : D} {k : Key} {Q : D → Sto → Prop} (k1 : S[a]? = some (.dic ks)) (k2 : keyOf x = some k) (h : Q ((gD ks k).getD y) S) : W (dgetD (.ref a) x y S) Q := by
  simpa [dgetD, withD, k1, k2] using h
theorem v_setK {a : Nat} {ks : List (Key × D)} {x v : D} {k : Key} {Q : Unit → Sto → Prop} (k1 : S[a]? = some (.dic ks)) (k2 : keyOf x = some k) (k3 : ks.length < sizeLine) (h : Q () (S.set a (.dic (pD ks k v)))) : W (setD (.ref a) x v S) Q := by
  simpa [setD, isDic, withD, k1, k2, k3] using h
theorem v_idxK {a : Nat} {ks : List (Key × D)} {x d : D} {k : Key} {Q : D → Sto → Prop} (k1 : S[a]? = some (.dic ks)) (k2 : keyOf x = some k) (k3 : gD ks k = some d) (h : Q d S) : W (idxD (.ref a) x S) Q := by
  cases x <;> first | (cases k2; done) | (cases k2; simpa [idxD, k1, k3] using h)
theorem v_lenD {a : Nat} {ks : List (Key × D)} {Q : D → Sto → Prop} (k1 : S[a]? = some (.dic ks)) (h : Q (.int ks.length) S) : W (aggD .len (.val (.ref a)) S) Q := by
  have e : aggD .len (.val (.ref a)) S = may (lenOf S (.val (.ref a))) fun n => .ok (.int n) S := rfl
  have e2 : lenOf S (.val (.ref a)) = some ks.length := by simp [lenOf, sqOf, lsOf, dicOf, k1]
  rw [e, e2, may_some, W_ok]
  exact h
theorem inD_dic {a : Nat} {ks : List (Key × D)} {x : D} {k : Key} (k1 : S[a]? = some (.dic ks)) (k2 : keyOf x = some k) : inD x (.val (.ref a)) S = some (gD ks k).isSome := by
  simp [inD, sqOf, lsOf, dicOf, k1, k2]
section
variable {α β : Type} {Q : α → Sto → Prop}
theorem w_may {o : Option β} {f : β → Res α} {b : β} (k : o = some b) (h : W (f b) Q) : W (may o f) Q := by
  rw [k, may_some]
  exact h
theorem w_ask {p : Prop} {r : Res α} (k : p) (h : W r Q) : W (ask p r) Q := by
  rw [W_ask]
  exact ⟨k, h⟩
theorem w_ok {a : α} (h : Q a S) : W (.ok a S) Q := by
  rw [W_ok]
  exact h
theorem w_bind {r : Res β} {f : β → Sto → Res α} (h : W r fun b S => W (f b S) Q) : W (r.bind f) Q := by
  rw [W_bind]
  exact h
theorem w_withL {a : Nat} {ds : List D} {f : Nat → List D → Res α} (k : S[a]? = some (.lst ds)) (h : W (f a ds) Q) : W (withL S (.ref a) f) Q := by
  simpa [withL, k] using h
theorem w_withD {a : Nat} {ks : List (Key × D)} {f : Nat → List (Key × D) → Res α} (k : S[a]? = some (.dic ks)) (h : W (f a ks) Q) : W (withD S (.ref a) f) Q := by
  simpa [withD, k] using h
theorem w_if {k : Bool} {A B : Res α} (h1 : k = true → W A Q) (h2 : k = false → W B Q) : W (if k = true then A else B) Q := by
  cases k
  · exact h2 rfl
  · exact h1 rfl
theorem w_ifd {p : Prop} {_ : Decidable p} {A B : Res α} (h1 : p → W A Q) (h2 : ¬p → W B Q) : W (if decide p = true then A else B) Q := w_if (fun h => h1 (of_decide_eq_true h)) fun h => h2 (of_decide_eq_false h)
theorem w_if_T {k : Bool} {A B : Res α} (hk : k = true) (h : W A Q) : W (if k = true then A else B) Q := by
  subst hk
  exact h
theorem w_if_F {k : Bool} {A B : Res α} (hk : k = false) (h : W B Q) : W (if k = true then A else B) Q := by
  subst hk
  exact h
theorem w_if_t {A B : Res α} (h : W A Q) : W (if true = true then A else B) Q := h
theorem w_if_f {A B : Res α} (h : W B Q) : W (if false = true then A else B) Q := h
theorem w_if_nt {A B : Res α} (h : W B Q) : W (if (!true) = true then A else B) Q := h
theorem w_if_nf {A B : Res α} (h : W A Q) : W (if (!false) = true then A else B) Q := h
theorem w_tru_b {b : Bool} {f : Bool → Res α} (h : W (f b) Q) : W (may (tru S (.bl b)) f) Q := h
theorem w_tru_i {i : Int} {f : Bool → Res α} (h : W (f (i != 0)) Q) : W (may (tru S (.int i)) f) Q := h
theorem w_tru_t {ds : List D} {f : Bool → Res α} (h : W (f (!ds.isEmpty)) Q) : W (may (tru S (.tup ds)) f) Q := h
theorem w_tru_r {i : Nat} {ds : List D} {f : Bool → Res α} (k : S[i]? = some (.lst ds)) (h : W (f (!ds.isEmpty)) Q) : W (may (tru S (.ref i)) f) Q := by
  simpa [tru, k] using h
end
/-- a body's end -/
noncomputable def retK (fl : Fl) (S : Sto) : Res D := match fl with
  | .nx _ => .ok .non S
  | .rt d => .ok d S
  | _ => .bad
theorem r_nx {Q : D → Sto → Prop} (h : Q .non S) : W (retK (.nx ρ) S) Q := (W_ok (Q := Q)).symm ▸ h
theorem r_rt {d : D} {Q : D → Sto → Prop} (h : Q d S) : W (retK (.rt d) S) Q := (W_ok (Q := Q)).symm ▸ h
/-- what a def hands back, its names laid out -/
theorem def_w {fn : Fn} {ds : List D} {ρ : En} {Q : D → Sto → Prop} (hl : ds.length = fn.ps) (hN : startE fn.N.length ds = ρ) (h : W (evSs C fn.body ρ S) fun fl S1 => W (retK fl S1) fun d S' => W (gc S d S') Q) : W (callF C fn ds S) Q := by
  subst hN
  refine callF_w hl ?_
  have e : runB C fn ds S = (evSs C fn.body (startE fn.N.length ds) S).bind fun fl S' => retK fl S' := rfl
  rw [e, W_bind]
  exact h
theorem orc_w {T : List Fn} {k f : Nat} {fn : Fn} {ds : List D} {ρ : En} {Q : D → Sto → Prop} (hf : T[f]? = some fn) (hl : ds.length = fn.ps) (hN : startE fn.N.length ds = ρ) (h : W (evSs (orc T k) fn.body ρ S) fun fl S1 => W (retK fl S1) fun d S' => W (gc S d S') Q) : W (orc T (k + 1) f ds S) Q := by
  have e : orc T (k + 1) f ds S = callF (orc T k) fn ds S := by
    show (match T[f]? with
      | some fn => callF (orc T k) fn ds S
      | none => Res.bad) = _
    rw [hf]
  rw [e]
  exact def_w hl hN h
theorem g_self {d : D} {Q : D → Sto → Prop} (h : Q d S) : W (gc S d S) Q := by
  rw [gc_self, W_ok]
  exact h
end PQ

namespace PQ
open PySem PySem.Spec PyProof.Rows L2
local macro_rules
  | `(tactic| mul_fits) => `(tactic| (repeat (first
    | (with_reducible refine PQ.w_scons ?_)
    | ((with_reducible apply PQ.w_var); (focus (exact rfl)))
    | (with_reducible refine PQ.w_bin ?_)
    | (with_reducible refine PQ.w_call ?_)
    | (with_reducible refine PQ.w_cons ?_)
    | (with_reducible refine PQ.w_nil ?_)
    | (with_reducible refine PQ.w_lit ?_)
    | (with_reducible refine PQ.w_cmp ?_)
    | (with_reducible refine PQ.w_idx ?_)
    | (with_reducible refine PQ.w_set ?_)
    | (with_reducible refine PQ.w_ret ?_)
    | (with_reducible refine PQ.w_ite ?_)
    | (with_reducible refine PQ.w_tv ?_)
    | (with_reducible refine PQ.w_tnot ?_)
    | (with_reducible refine PQ.w_nx ?_)
    | (with_reducible refine PQ.w_rt ?_)
    | (with_reducible refine PQ.w_if_t ?_)
    | (with_reducible refine PQ.w_if_f ?_)
    | (with_reducible refine PQ.w_if_nt ?_)
    | (with_reducible refine PQ.w_if_nf ?_)
    | (with_reducible refine PQ.w_tru_b ?_)
    | (with_reducible refine PQ.w_tru_i ?_)
    | (with_reducible refine PQ.w_tru_t ?_)
    | (with_reducible refine PQ.w_ok ?_)
    | (with_reducible refine PQ.w_snil ?_)
    | (with_reducible refine PQ.w_ex ?_)
    | (with_reducible refine PQ.w_agg ?_)
    | (with_reducible refine PQ.w_fn1 ?_)
    | (with_reducible refine PQ.w_fn2 ?_)
    | (with_reducible refine PQ.w_tup ?_)
    | (with_reducible refine PQ.w_alloc ?_)
    | (with_reducible refine PQ.w_disp ?_)
    | (with_reducible refine PQ.w_e ?_)
    | (with_reducible refine PQ.w_q ?_)
    | (with_reducible refine PQ.w_ir ?_)
    | (with_reducible refine PQ.w_for ?_)
    | (with_reducible refine PQ.w_comp ?_)
    | (with_reducible refine PQ.w_compIf ?_)
    | (with_reducible refine PQ.w_and ?_)
    | (with_reducible refine PQ.w_or ?_)
    | (with_reducible refine PQ.w_not ?_)
    | (with_reducible refine PQ.w_ife ?_)
    | (with_reducible refine PQ.w_slc ?_)
    | (with_reducible refine PQ.w_oN ?_)
    | (with_reducible refine PQ.w_isi ?_)
    | (with_reducible refine PQ.w_app ?_)
    | (with_reducible refine PQ.w_ext ?_)
    | (with_reducible refine PQ.w_pop ?_)
    | (with_reducible refine PQ.w_popAt ?_)
    | (with_reducible refine PQ.w_isN ?_)
    | (with_reducible refine PQ.w_notN ?_)
    | (with_reducible refine PQ.w_inr ?_)
    | (with_reducible refine PQ.w_notInr ?_)
    | (with_reducible refine PQ.w_chn ?_)
    | (with_reducible refine PQ.w_tand ?_)
    | (with_reducible refine PQ.w_tor ?_)
    | (with_reducible refine PQ.w_cat ?_)
    | (with_reducible refine PQ.w_sorted ?_)
    | (with_reducible refine PQ.w_list ?_)
    | (with_reducible refine PQ.w_rev ?_)
    | (with_reducible refine PQ.w_setT ?_)
    | (with_reducible refine PQ.w_par ?_)
    | (with_reducible refine PQ.w_sub ?_)
    | (with_reducible refine PQ.w_bk ?_)
    | (with_reducible refine PQ.w_ct ?_)
    | (with_reducible refine PQ.w_brk ?_)
    | (with_reducible refine PQ.w_cont ?_)
    | (with_reducible refine PQ.w_pass ?_)
    | (with_reducible refine PQ.v_add ?_)
    | (with_reducible refine PQ.v_sub ?_)
    | (with_reducible refine PQ.v_band ?_)
    | (with_reducible refine PQ.v_bor ?_)
    | (with_reducible refine PQ.v_bxor ?_)
    | (with_reducible refine PQ.v_augAdd ?_)
    | (with_reducible refine PQ.v_augSub ?_)
    | (with_reducible refine PQ.v_lt ?_)
    | (with_reducible refine PQ.v_le ?_)
    | (with_reducible refine PQ.v_gt ?_)
    | (with_reducible refine PQ.v_ge ?_)
    | (with_reducible refine PQ.v_eq ?_)
    | (with_reducible refine PQ.v_ne ?_)
    | (with_reducible refine PQ.v_eqS ?_)
    | (with_reducible refine PQ.v_neS ?_)
    | (with_reducible refine PQ.v_eqB ?_)
    | (with_reducible refine PQ.v_intI ?_)
    | (with_reducible refine PQ.v_intB ?_)
    | (with_reducible refine PQ.v_abs ?_)
    | (with_reducible refine PQ.v_gcd ?_)
    | (with_reducible refine PQ.v_min2 ?_)
    | (with_reducible refine PQ.v_max2 ?_)
    | (with_reducible refine PQ.v_slcT ?_)
    | (with_reducible refine PQ.w_bind ?_)
    | (with_reducible refine PQ.r_nx ?_)
    | (with_reducible refine PQ.r_rt ?_)
    | (with_reducible refine PQ.g_self ?_)
    | ((with_reducible apply PQ.w_aug); (focus (exact rfl)))
    | (with_reducible refine PQ.w_neg ?_)
    | (with_reducible refine PQ.w_oS ?_)
    | (with_reducible refine PQ.w_listRg ?_)
    | (with_reducible refine PQ.w_rg ?_)
    | (with_reducible refine PQ.w_augS ?_)
    | ((with_reducible apply PQ.v_mul); (focus (first | assumption | exact .of_left (by decide +kernel) | exact .of_right (by decide +kernel))))
    | ((with_reducible apply PQ.v_fdiv); (focus (first | assumption | exact ⟨by omega, PyProof.noPylong_small (by omega)⟩)))
    | ((with_reducible apply PQ.v_mod); (focus (first | assumption | omega)))
    | ((with_reducible apply PQ.v_pow); (focus (first | assumption | (unfold CPow; decide +kernel) | (unfold CPow; omega))))
    | ((with_reducible apply PQ.v_shl); (focus (first | assumption | (unfold CPow; decide +kernel) | (unfold CPow; omega))))
    | ((with_reducible apply PQ.v_shr); (focus (first | assumption | omega)))
    | ((with_reducible apply PQ.v_idx); (focus (first | exact rfl | assumption)); (focus (first | exact rfl | assumption)))
    | ((with_reducible apply PQ.v_idxT); (focus (first | exact rfl | assumption)))
    | ((with_reducible apply PQ.v_idxF); (focus (first | exact rfl | assumption)))
    | ((with_reducible apply PQ.v_len); (focus (first | exact rfl | assumption)))
    | ((with_reducible apply PQ.v_tuple); (focus (first | exact rfl | assumption)))
    | ((with_reducible apply PQ.v_sum); (focus (first | exact rfl | assumption)); (focus (first | exact rfl | assumption)))
    | ((with_reducible apply PQ.v_all); (focus (first | exact rfl | assumption)); (focus (first | exact rfl | assumption)))
    | ((with_reducible apply PQ.v_any); (focus (first | exact rfl | assumption)); (focus (first | exact rfl | assumption)))
    | ((with_reducible apply PQ.v_slc); (focus (first | exact rfl | assumption)))
    | ((with_reducible apply PQ.v_set); (focus (first | exact rfl | assumption)); (focus (first | exact rfl | assumption)))
    | ((with_reducible apply PQ.w_withL); (focus (first | exact rfl | assumption)))
    | ((with_reducible apply PQ.v_app); (focus (first | exact rfl | assumption)); (focus (first | assumption | exact Nat.lt_of_lt_of_le (Nat.lt_succ_self _) (Nat.le_of_ble_eq_true rfl) | omega)))
    | ((with_reducible apply PQ.v_addT); (focus (first | assumption | exact Nat.le_of_ble_eq_true rfl | omega)))
    | ((with_reducible apply PQ.v_addS); (focus (first | assumption | exact Nat.le_of_ble_eq_true rfl | omega)))
    | ((with_reducible apply PQ.v_addL); (focus (first | exact rfl | assumption)); (focus (first | exact rfl | assumption)); (focus (first | assumption | exact Nat.le_of_ble_eq_true rfl | omega)))
    | ((with_reducible apply PQ.w_tru_r); (focus (first | exact rfl | assumption)))
    | ((with_reducible apply PQ.w_if_T); (focus (exact rfl)))
    | ((with_reducible apply PQ.w_if_F); (focus (exact rfl)))
    | ((with_reducible apply PQ.w_may); (focus (exact rfl)))
    | ((with_reducible refine ⟨_, rfl, ?_⟩))
    | ((with_reducible apply PQ.w_augK); (focus (first | exact rfl | assumption)); (focus (first | exact rfl | assumption)))
    | ((with_reducible refine ⟨_, _, rfl, rfl, ?_, ?_⟩); (focus (first | assumption | (unfold bd62; omega) | (unfold RgOk; omega))))
    | ((with_reducible refine ⟨?_, ?_⟩); (focus (first | assumption | exact Nat.le_of_ble_eq_true rfl | omega))))))
/-! ### the draws: every law has them -/
/-- .. from the place where the number is read -/
def bDraw2 : CSs := (.cons (.augS (.var 0) (.lit (.int 1)) .add (.lit (.int 1)))
  (.cons (.ite (.v (.cmp .ge (.var 3) (.bin .mul (.lit (.int 2)) (.bin .pow (.lit (.int 10)) (.lit (.int 18))))))
  (.cons (.set (.nm 2) (.bin .mod (.fn1 .int (.bin .fdiv (.var 3) (.lit (.int 2)))) (.bin .shl (.lit (.int 1)) (.lit (.int 6000)))))
  (.cons (.sub (.var 0) (.lit (.int 2)) (.bin .fdiv (.var 2) (.var 1)))
  (.cons (.ret (.bin .mod (.fn1 .int (.var 2)) (.var 1)))
  .nil)))
  .nil)
  (.cons (.sub (.var 0) (.lit (.int 3)) (.bin .mod (.fn1 .int (.bin .add (.bin .add (.bin .add (.bin .mul (.idx (.var 0) (.lit (.int 3))) (.lit (.int 48271))) (.bin .mul (.bin .mod (.fn1 .int (.var 3)) (.lit (.int 2147483629))) (.lit (.int 16807)))) (.bin .mul (.idx (.var 0) (.lit (.int 1))) (.lit (.int 69621)))) (.lit (.int 11)))) (.lit (.int 2147483647))))
  (.cons (.ret (.bin .mod (.fn1 .int (.bin .fdiv (.idx (.var 0) (.lit (.int 3))) (.lit (.int 16)))) (.var 1)))
  .nil))))
def bDraw : CSs := (.cons (.ite (.v (.cmp .gt (.idx (.var 0) (.lit (.int 2))) (.lit (.int 0))))
  (.cons (.set (.nm 2) (.idx (.var 0) (.lit (.int 2))))
  (.cons (.sub (.var 0) (.lit (.int 2)) (.bin .fdiv (.var 2) (.var 1)))
  (.cons (.ret (.bin .mod (.fn1 .int (.var 2)) (.var 1)))
  .nil)))
  .nil)
  (.cons (.set (.nm 3) (.lit (.int 0)))
  (.cons (.ite (.v (.cmp .lt (.idx (.var 0) (.lit (.int 1))) (.agg .len (.e (.idx (.var 0) (.lit (.int 0)))))))
  (.cons (.set (.nm 4) (.idx (.idx (.var 0) (.lit (.int 0))) (.idx (.var 0) (.lit (.int 1)))))
  (.cons (.set (.nm 3) (.bin .add (.bin .mul (.lit (.int 2)) (.fn1 .abs (.var 4))) (.fn1 .int (.cmp .lt (.var 4) (.lit (.int 0))))))
  .nil))
  .nil)
  bDraw2)))
/-- the store of a law: the script's ints, the place and the two seeds of the draws; then the law's own -/
structure DS where
  cells : List Int
  p : Int
  r : Int
  s : Int
  p0 : 0 ≤ p
def DS.st (d : DS) (R : Sto) : Sto := .lst (d.cells.map .int) :: .lst [.ref 0, .int d.p, .int d.r, .int d.s] :: R
theorem draw_w {C : Orc} {x : Str} {N : List Str} {d : DS} {R : Sto} {m : Int} {Q : D → Sto → Prop} (hN : N.length = 5) (h1 : 0 < m) (h2 : m < 1073741824) (h : ∀ (y : Int) (d' : DS), 0 ≤ y → y < m → Q (.int y) (d'.st R)) :
    W (callF C ⟨x, N, 2, bDraw⟩ [.ref 1, .int m] (d.st R)) Q := by
  have fd : ∀ i, FDivOk i m := fun i => ⟨by omega, PyProof.noPylong_small (by omega)⟩
  have fd2 : ∀ i, FDivOk i 2 := fun i => ⟨by omega, PyProof.noPylong_small (by omega)⟩
  have fd16 : ∀ i, FDivOk i 16 := fun i => ⟨by omega, PyProof.noPylong_small (by omega)⟩
  have q1 : ∀ i : Int, 0 ≤ i.fmod m := fun i => Int.fmod_nonneg_of_pos i h1
  have q2 : ∀ i : Int, i.fmod m < m := fun i => Int.fmod_lt_of_pos i h1
  have m1 : ∀ i, IntMulOk 2 i := fun i => .of_left (by decide +kernel)
  have m2 : ∀ i, IntMulOk i 48271 := fun i => .of_right (by decide +kernel)
  have m3 : ∀ i, IntMulOk i 16807 := fun i => .of_right (by decide +kernel)
  have m4 : ∀ i, IntMulOk i 69621 := fun i => .of_right (by decide +kernel)
  have c1 : CPow 10 18 := by unfold CPow; decide +kernel
  have c2 : CPow 1 6000 := by unfold CPow; decide +kernel
  have hm : m ≠ 0 := by omega
  have hs : (1 * 2 ^ Int.toNat 6000 : Int) ≠ 0 := by
    rw [Int.one_mul]
    exact Int.ne_of_gt (Int.pow_pos (by decide))
  obtain ⟨cells, p, r, s, p0⟩ := d
  refine def_w (ρ := [some (.ref 1), some (.int m), none, none, none]) rfl (by rw [hN]; rfl) ?_
  simp only [bDraw, DS.st]
  mul_fits
  refine w_ifd (fun k => ?_) fun k => ?_
  · mul_fits
    rw [gc_same (by simp)]
    mul_fits
    exact h _ ⟨cells, p, _, s, p0⟩ (q1 _) (q2 _)
  have tail : ∀ (z : Int) (o : Option D), W (evSs C bDraw2 [some (.ref 1), some (.int m), none, some (.int z), o] (.lst (cells.map .int) :: .lst [.ref 0, .int p, .int r, .int s] :: R)) fun fl S' => W (retK fl S') fun d S'' => W (gc (.lst (cells.map .int) :: .lst [.ref 0, .int p, .int r, .int s] :: R) d S'') Q := by
    intro z o
    simp only [bDraw2]
    mul_fits
    refine w_ifd (fun k => ?_) fun k => ?_
    · mul_fits
      rw [gc_same (by simp)]
      mul_fits
      exact h _ ⟨cells, p + 1, _, s, by omega⟩ (q1 _) (q2 _)
    · mul_fits
      rw [gc_same (by simp)]
      mul_fits
      exact h _ ⟨cells, p + 1, r, _, by omega⟩ (q1 _) (q2 _)
  mul_fits
  refine w_ifd (fun k => ?_) fun k => ?_
  · have hl : p.toNat < cells.length := by rw [List.length_map] at k; omega
    have hc : atI (List.map D.int cells) p = some (.int (cells[p.toNat])) := by
      unfold atI ixN
      rw [if_pos p0, if_pos k]
      simp [hl]
    mul_fits
    exact tail _ _
  · mul_fits
    exact tail _ _
theorem gc_out {S S' : Sto} {d : D} (h : ¬below S.length d) : gc S d S' = .ok d S' := by
  unfold gc
  rw [if_neg fun z => h z.1]
def bBegin : CSs := (.cons (.ret (.alloc (.disp (.cons (.alloc (.comp [1] (.nm 1) (.r (.e (.var 0))) (.fn1 .int (.var 1)))) (.cons (.lit (.int 0)) (.cons (.lit (.int 0)) (.cons (.lit (.int 5)) .nil)))))))
  .nil)
theorem begin_w {C : Orc} {x : Str} {N : List Str} {ns : List Int} {Q : D → Sto → Prop} (hN : N.length = 2) (hl : ns.length ≤ 63) (h : Q (.ref 1) (DS.st ⟨ns, 0, 0, 5, by decide⟩ [])) : W (callF C ⟨x, N, 1, bBegin⟩ [.fix (ns.map .int)] []) Q := by
  refine def_w (ρ := [some (.fix (ns.map .int)), none]) rfl (by rw [hN]; rfl) ?_
  simp only [bBegin]
  mul_fits
  refine ⟨by rw [List.length_map]; exact Nat.le_trans hl (Nat.le_of_ble_eq_true rfl), ?_⟩
  refine loopQ_w (fun ds r S => S = [] ∧ r ++ ds = ns.map .int) (fun d ds r S i => ⟨trivial, ?_⟩) (fun r S i => ⟨trivial, ?_⟩) _ _ ⟨rfl, rfl⟩
  · obtain ⟨rfl, i⟩ := i
    have : d ∈ ns.map D.int := by rw [← i]; simp
    obtain ⟨j, _, rfl⟩ := List.mem_map.mp this
    mul_fits
    exact ⟨rfl, by rw [← i]; simp⟩
  · obtain ⟨rfl, i⟩ := i
    rw [List.append_nil] at i
    subst i
    mul_fits
    rw [gc_out (by simp [below])]
    mul_fits
    exact h
end PQ

/-! The head's facts, with the module's values. -/
namespace PQ
open PySem PySem.Spec PyProof.Rows L2
mutual
def dB (K : PySem.W.Frag) : D → Value → Bool
  | .non, .none => true
  | .bl b, .bool c => b == c
  | .int i, .int j _ => decide (i = j)
  | .str x, .str y _ => decide (x = y)
  | .tup ds, .ref a => (match K.lookup a with
    | some ⟨.type c, none, .seq its _, _⟩ => decide (c = "tuple") && (decide (its.size ≤ sizeLine) && (decide (ds.length ≤ sizeLine) && dsB K ds its.toList))
    | _ => false)
  | _, _ => false
def dsB (K : PySem.W.Frag) : List D → List Value → Bool
  | [], [] => true
  | d :: ds, u :: us => dB K d u && dsB K ds us
  | _, _ => false
end
mutual
theorem dB_ok {K : PySem.W.Frag} : ∀ (d : D) (u : Value), dB K d u = true → ∃ v, RelV v u ∧ ∀ μ H, Rp K μ H d v
  | .non, .none, _ => ⟨.non, rfl, fun _ _ => rfl⟩
  | .bl b, .bool c, h => ⟨.bl b, by
    have : b = c := by simpa [dB] using h
    subst this
    rfl, fun _ _ => rfl⟩
  | .int i, .int j t, h => ⟨.int i, ⟨t, by
    have : i = j := by simpa [dB] using h
    rw [this]⟩, fun _ _ => rfl⟩
  | .str x, .str y t, h => ⟨.str x, ⟨t, by
    have : x = y := by simpa [dB] using h
    rw [this]⟩, fun _ _ => rfl⟩
  | .tup ds, .ref a, h => by
    unfold dB at h
    split at h
    · rename_i c its n sl e
      obtain ⟨h1, h⟩ := Bool.and_eq_true_iff.mp h
      obtain ⟨h2, h⟩ := Bool.and_eq_true_iff.mp h
      obtain ⟨h3, h⟩ := Bool.and_eq_true_iff.mp h
      obtain ⟨vs, q1, q2⟩ := dsB_ok ds its.toList h
      exact ⟨.ref a, rfl, fun μ H => ⟨a, vs, rfl, .inr ⟨_, its, n, e, congrArg Value.type (of_decide_eq_true h1), rfl, rfl, of_decide_eq_true h2, q1⟩, q2 μ H, of_decide_eq_true h3⟩⟩
    · cases h
theorem dsB_ok {K : PySem.W.Frag} : ∀ (ds : List D) (us : List Value), dsB K ds us = true → ∃ vs, Vals vs us ∧ ∀ μ H, RpA K μ H ds vs
  | [], [], _ => ⟨[], .nil, fun _ _ => rfl⟩
  | d :: ds, u :: us, h => by
    obtain ⟨h1, h2⟩ := Bool.and_eq_true_iff.mp h
    obtain ⟨v, a1, a2⟩ := dB_ok d u h1
    obtain ⟨vs, b1, b2⟩ := dsB_ok ds us h2
    exact ⟨v :: vs, .cons a1 b1, fun μ H => .cons (a2 μ H) (b2 μ H)⟩
end
def gB (K : PySem.W.Frag) (q : Str × Gv) : Bool := match q.2 with
  | .con d => (match PySem.W.nsIn K mainGlobals q.1 with
    | some (some u) => dB K d u
    | _ => false)
  | .fn id => He.eqO (PySem.W.nsIn K mainGlobals q.1) (some (some (.builtin id)))
theorem gB_ok {K : PySem.W.Frag} {h : Heap} {mg : Str → Option Value} (X : K.In h) (G : h.Ns mainGlobals mg) {Gs : List (Str × Gv)} (c : Gs.all (gB K) = true) : ∀ x g, (x, g) ∈ Gs → GvOk K mg x g := fun x g hx => by
  have c1 := List.all_eq_true.mp c _ hx
  cases g with
  | con d =>
    have c1 : (match PySem.W.nsIn K mainGlobals x with
      | some (some u) => dB K d u
      | _ => false) = true := c1
    split at c1
    · rename_i u e
      obtain ⟨v, h1, h2⟩ := dB_ok d u c1
      exact ⟨v, u, PySem.W.mg_of X G e, h1, h2⟩
    · cases c1
  | fn id => exact PySem.W.mg_of X G (He.eqO_ok c1)
def obP (n : Nat) (fa : List He.Fa) (fn : List He.DefD) (Gs : List (Str × Gv)) (g : Addr → Option Obj) : He.AlD × Bool := (He.obsDG n fa fn g, Gs.all (gB (He.frG g (He.asD g n))))
def hookP (n : Nat) (fa : List He.Fa) (fn : List He.DefD) (Gs : List (Str × Gv)) : PySem.W.Hook where
  α := He.AlD × Bool
  obs := fun s => obP n fa fn Gs s.heap.get?
  val := fun _ => (He.valD fn, true)
  says := fun _ h => ∃ K : PySem.W.Frag, K.In h ∧ He.SaysD fa fn K ∧ Gs.all (gB K) = true
  of := fun _ _ e => ⟨_, He.frG_in, congrArg (fun z : He.AlD × Bool => z.1) e, congrArg (fun z : He.AlD × Bool => z.2) e⟩
  keeps := fun _ _ _ ⟨K, hK, c⟩ k => ⟨K, PySem.W.Frag.In.keeps hK k, c⟩
theorem obP_eq {n : Nat} {fa : List He.Fa} {fn : List He.DefD} {Gs : List (Str × Gv)} {g : Addr → Option Obj} {s : Shared} (h : ∀ a, g a = s.heap.get? a) : obP n fa fn Gs g = (hookP n fa fn Gs).obs s := by
  have e : g = s.heap.get? := funext h
  rw [e] <;> rfl
end PQ

namespace PQ
open PySem PySem.Spec PyProof.Rows L2
theorem le64 {n : Nat} (h : n ≤ 64) : n ≤ sizeLine := Nat.le_trans h (Nat.le_of_ble_eq_true rfl)
end PQ

/-! Helps that more than one law asks for. -/
namespace PQ
open PySem PySem.Spec PyProof.Rows L2
theorem while_w {C : Orc} {t : CT} {b : CSs} {Q : Fl → Sto → Prop} (I : Nat → En → Sto → Prop)
    (h : ∀ n ρ S, I n ρ S → W (evT C t ρ S) fun c S1 => (c = true → ∃ m, n = m + 1 ∧ W (evSs C b ρ S1) fun fl S2 => ∃ ρ', (fl = .nx ρ' ∨ fl = .ct ρ') ∧ I m ρ' S2) ∧ (c = false → Q (.nx ρ) S1)) : ∀ (n fuel : Nat) ρ S, n < fuel → I n ρ S → W (whileS (evT C t) (evSs C b) fuel ρ S) Q
  | n, 0, _, _, hf, _ => by omega
  | n, fuel + 1, ρ, S, hf, hi => by
    rw [whileS, W_bind]
    refine W_mono (h n ρ S hi) fun c S1 hc => ?_
    cases c with
    | false =>
      rw [if_neg (by decide), W_ok]
      exact hc.2 rfl
    | true =>
      obtain ⟨m, rfl, hb⟩ := hc.1 rfl
      rw [if_pos rfl, W_bind]
      refine W_mono hb fun fl S2 ⟨ρ', e, k⟩ => ?_
      rcases e with e | e <;> subst e <;> exact while_w I h m fuel ρ' S2 (by omega) k
theorem get_end (S : Sto) (o : Ob) : (S ++ [o])[S.length]? = some o := by simp
theorem set_end (S : Sto) (o p : Ob) : (S ++ [o]).set S.length p = S ++ [p] := by simp
theorem get_pre {S R : Sto} {a : Nat} {o : Ob} (h : S[a]? = some o) : (S ++ R)[a]? = some o := by
  rw [List.getElem?_append_left (List.getElem?_eq_some_iff.mp h).1]
  exact h
theorem ints_map (ns : List Int) : intsOf (ns.map D.int) = some ns := by
  induction ns with
  | nil => rfl
  | cons x xs ih => simp [intsOf, ih]
theorem at_last (l : List D) (d : D) : atI (l ++ [d]) (-1) = some d := by
  unfold atI ixN
  rw [if_neg (by omega), if_pos (by simp; omega)]
  have e : ((-1 : Int) + ((l ++ [d]).length : Int)).toNat = l.length := by simp; omega
  rw [e]
  simp
theorem sum_nn : ∀ ns : List Int, (∀ n ∈ ns, 0 ≤ n) → 0 ≤ ns.sum
  | [], _ => by simp
  | n :: ns, h => by
    have := h n (by simp)
    have := sum_nn ns fun x hx => h x (by simp [hx])
    rw [List.sum_cons]
    omega
theorem rgD_get {i j : Int} {d : D} (h : d ∈ rgD i j) : ∃ x, d = .int x ∧ i ≤ x ∧ x < j := by
  obtain ⟨q, hq, rfl⟩ := List.mem_map.mp h
  rw [List.mem_range] at hq
  exact ⟨_, rfl, by omega, by omega⟩
def Grown (S S' : Sto) : Prop := ∃ g, S' = S ++ g
theorem bools_map (bs : List Bool) : boolsOf (bs.map D.bl) = some bs := by
  induction bs with
  | nil => rfl
  | cons x xs ih => simp [boolsOf, ih]
theorem le_size {n : Nat} (h : n ≤ 100000) : n ≤ sizeLine := Nat.le_trans h (Nat.le_of_ble_eq_true rfl)
theorem gc_st {d d' : DS} {R g : Sto} {e : D} {Q : D → Sto → Prop} (h1 : below (R.length + 2) e → Q e (d'.st R)) (h2 : Q e (d'.st (R ++ g))) : W (gc (d.st R) e (d'.st (R ++ g))) Q := by
  unfold gc
  split
  · rename_i sf
    rw [W_ok]
    have : (d'.st (R ++ g)).take (d.st R).length = d'.st R := by
      show List.take (R.length + 2) (_ :: _ :: (R ++ g)) = _
      rw [List.take_succ_cons, List.take_succ_cons, List.take_left' rfl]
      rfl
    rw [this]
    exact h1 sf.1
  · rw [W_ok]
    exact h2
theorem st_len {d : DS} {R : Sto} : (d.st R).length = R.length + 2 := rfl
theorem st_app {d : DS} {R g : Sto} : d.st R ++ g = d.st (R ++ g) := rfl
theorem st_get {d : DS} {R : Sto} {b : Nat} : (d.st R)[b + 2]? = R[b]? := rfl
theorem w_es {C : Orc} {es : CEs} {ρ : En} {S S1 : Sto} {ds : List D} {Q : List D → Sto → Prop} (he : evEs C es ρ S = .ok ds S1) (h : Q ds S1) : W (evEs C es ρ S) Q := by
  rw [he, W_ok]
  exact h
def Good1 (fl : Fl) (S : Sto) : Prop := W (retK fl S) fun d S' => W (gc [] d S') fun e _ => e = .bl true
theorem good1 {S : Sto} : Good1 (.rt (.bl true)) S := by
  refine r_rt ?_
  rw [show S = [] ++ S from rfl, gc_app (by simp [below])]
  exact w_ok rfl
theorem st_end {d : DS} {R : Sto} {o : Ob} : (d.st (R ++ [o]))[R.length + 2]? = some o := by rw [st_get]; exact get_end R o
theorem fdiv_small {c : Int} (h0 : c ≠ 0) (h : c.natAbs < 2 ^ 8000) (n : Int) : FDivOk n c := ⟨h0, PyProof.noPylong_of_log2 (by
  have h1 : c.natAbs ≠ 0 := by omega
  have := (Nat.log2_lt h1).mpr h
  omega)⟩
theorem mul_bd {a b : Int} {m n : Nat} (ha : a.natAbs < 2 ^ m) (hb : b.natAbs < 2 ^ n) : (a * b).natAbs < 2 ^ (m + n) := by
  rw [Int.natAbs_mul, Nat.pow_add]
  exact Nat.mul_lt_mul_of_lt_of_le ha (Nat.le_of_lt hb) (Nat.two_pow_pos _)
theorem bd_mono {a : Int} {m n : Nat} (h : a.natAbs < 2 ^ m) (hmn : m ≤ n) : a.natAbs < 2 ^ n := Nat.lt_of_lt_of_le h (Nat.pow_le_pow_right (by decide) hmn)
theorem add_bd {a b : Int} {m : Nat} (ha : a.natAbs < 2 ^ m) (hb : b.natAbs < 2 ^ m) : (a + b).natAbs < 2 ^ (m + 1) := by
  rw [Nat.pow_succ]
  omega
theorem sub_bd {a b : Int} {m : Nat} (ha : a.natAbs < 2 ^ m) (hb : b.natAbs < 2 ^ m) : (a - b).natAbs < 2 ^ (m + 1) := by
  rw [Nat.pow_succ]
  omega
theorem mul_okb {a b : Int} {m n : Nat} (ha : a.natAbs < 2 ^ m) (hb : b.natAbs < 2 ^ n) (h : m + n ≤ 134217728) : IntMulOk a b := (mulx_ok ha hb h).ok
section
variable {S : Sto} {Q : D → Sto → Prop}
theorem v_idxS {z : Str} {i : Int} {c : Nat} (k : z.length ≤ sizeLine) (k2 : atI z.cps.toList i = some c) (h : Q (.str ⟨#[c]⟩) S) : W (idxD (.str z) (.int i) S) Q := by
  simpa [idxD, k, k2] using h
theorem v_mulL {i : Nat} {n : Int} {a : List D} (k1 : S[i]? = some (.lst a)) (k2 : -(2 ^ 63) ≤ n ∧ n < 2 ^ 63 ∧ a.length * n.toNat ≤ sizeLine) (h : Q (.ref S.length) (S ++ [.lst (List.replicate n.toNat a).flatten])) : W (binD .mul (.ref i) (.int n) S) Q := by
  simp only [binD, k1, W_ask, W_ok]
  exact ⟨k2, h⟩
theorem v_ext {a : Nat} {ds es : List D} {r : RV} (k1 : S[a]? = some (.lst ds)) (k2 : trOf S r = some es) (k3 : ds.length + es.length ≤ sizeLine) (h : Q .non (S.set a (.lst (ds ++ es)))) : W (extD (.ref a) r S) Q := by
  simp only [extD, withL, k1, k2, may_some, if_pos k3, W_ok]
  exact h
theorem v_pop {a : Nat} {ds : List D} {d : D} (k1 : S[a]? = some (.lst ds)) (k2 : ds[ds.length - 1]? = some d) (h : Q d (S.set a (.lst ds.dropLast))) : W (popD (.ref a) S) Q := by
  simp only [popD, withL, k1, k2, may_some, W_ok]
  exact h
theorem v_popAt {a : Nat} {ds : List D} {i : Int} {k : Nat} {d : D} (k1 : S[a]? = some (.lst ds)) (k0 : -(2 ^ 63) ≤ i ∧ i < 2 ^ 63) (k2 : seqIndex? i ds.length = some k) (k3 : ds[k]? = some d) (h : Q d (S.set a (.lst (ds.eraseIdx k)))) : W (popAtD (.ref a) (.int i) S) Q := by
  simp only [popAtD, withL, k1, if_pos k0, k2, k3, may_some, W_ok]
  exact h
end
end PQ

/-! A walk that may go back early. -/
namespace PQ
open PySem PySem.Spec PyProof.Rows L2
theorem loopS_r {C : Sto → Prop} {f : D → En → Sto → Res Fl} {Q : Fl → Sto → Prop} (I : List D → En → Sto → Prop)
    (h : ∀ d ds ρ S, I (d :: ds) ρ S → C S ∧ W (f d ρ S) fun fl S' => match fl with
      | .nx ρ' => I ds ρ' S'
      | .ct ρ' => I ds ρ' S'
      | .bk ρ' => Q (.nx ρ') S'
      | .rt x => Q (.rt x) S')
    (h0 : ∀ ρ S, I [] ρ S → C S ∧ Q (.nx ρ) S) : ∀ ds ρ S, I ds ρ S → W (loopS C f ds ρ S) Q
  | [], ρ, S, i => by
    rw [loopS, W_ask, W_ok]
    exact h0 ρ S i
  | d :: ds, ρ, S, i => by
    rw [loopS, W_ask, W_bind]
    obtain ⟨k1, k2⟩ := h d ds ρ S i
    refine ⟨k1, W_mono k2 fun fl S' k => ?_⟩
    cases fl with
    | nx ρ' => exact loopS_r I h h0 ds ρ' S' k
    | ct ρ' => exact loopS_r I h h0 ds ρ' S' k
    | bk ρ' => exact (W_ok (Q := Q)).symm ▸ k
    | rt x => exact (W_ok (Q := Q)).symm ▸ k
end PQ

/-! Numbers and tuples alone; more helps. -/
namespace PQ
open PySem PySem.Spec PyProof.Rows L2
theorem v_lenS {S : Sto} {z : Str} {Q : D → Sto → Prop} (k : z.length ≤ sizeLine) (h : Q (.int z.length) S) : W (aggD .len (.val (.str z)) S) Q := by
  have e : aggD .len (.val (.str z)) S = .ok (.int z.length) S := by
    show (if z.length ≤ sizeLine then _ else _) = _
    rw [if_pos k]
  rw [e, W_ok]
  exact h
theorem rgD0 (n : Nat) : rgD 0 (n : Int) = (List.range n).map fun (k : Nat) => D.int (k : Int) := by simp [rgD]
abbrev natD (n : Nat) : D := .int (n : Int)
theorem at_map {α : Type} (f : α → D) (l : List α) (k : Nat) (h : k < l.length) : atI (l.map f) (k : Int) = some (f l[k]) := by
  unfold atI ixN
  rw [if_pos (by omega), if_pos (by simp; omega)]
  simp [h]
def gI (l : List Int) (k : Nat) : Int := l.getD k 0
theorem at_ints (l : List Int) (k : Nat) (h : k < l.length) : atI (l.map D.int) (k : Int) = some (.int (gI l k)) := by
  rw [at_map _ _ _ h]
  simp [gI, h]
theorem ix_nat {n k : Nat} (h : k < n) : ixN n (k : Int) = some k := by
  unfold ixN
  rw [if_pos (by omega), if_pos (by omega)]
  simp
theorem at_nat (l : List D) (k : Nat) (h : k < l.length) : atI l (k : Int) = some l[k] := by
  unfold atI
  rw [ix_nat h]
  simp [h]
theorem get_mid (S R : Sto) (o : Ob) : (S ++ [o] ++ R)[S.length]? = some o := by simp
theorem set_mid (S R : Sto) (o p : Ob) : (S ++ [o] ++ R).set S.length p = S ++ [p] ++ R := by
  rw [List.set_append_left _ _ (by simp), set_end]
theorem get_far {S R : Sto} {o p : Ob} {b : Nat} {q : Ob} (h : S.length < b) (e : (S ++ [o] ++ R)[b]? = some q) : (S ++ [p] ++ R)[b]? = some q := by
  rw [List.getElem?_append_right (by simp; omega)] at e ⊢
  simpa using e
/-- numbers and tuples of such -/
inductive It : D → Prop
  | int (i : Int) : It (.int i)
  | tup (ds : List D) (h : ∀ d ∈ ds, It d) : It (.tup ds)
theorem belows_iff {n : Nat} : ∀ {ds : List D}, belows n ds ↔ ∀ d ∈ ds, below n d
  | [] => by simp [belows]
  | d :: ds => by simp [belows, belows_iff (ds := ds)]
theorem it_below {n : Nat} {d : D} (h : It d) : below n d := by
  induction h with
  | int i => simp [PQ.below]
  | tup ds h ih =>
    show belows n ds
    exact belows_iff.mpr ih
theorem it_ints (l : List Int) : It (.tup (l.map D.int)) := .tup _ fun d hd => by
  obtain ⟨i, _, rfl⟩ := List.mem_map.mp hd
  exact .int i
end PQ

/-! Walks over rows of things of one kind. -/
namespace PQ
open PySem PySem.Spec PyProof.Rows L2
def All2 {α β : Type} (P : α → β → Prop) : List α → List β → Prop
  | [], [] => True
  | a :: as, b :: bs => P a b ∧ All2 P as bs
  | _, _ => False
section
variable {α β : Type} {P : α → β → Prop}
theorem All2.len : ∀ {l : List α} {m : List β}, All2 P l m → m.length = l.length
  | [], [], _ => rfl
  | _ :: as, _ :: bs, h => by rw [List.length_cons, List.length_cons, All2.len h.2]
  | [], _ :: _, h => h.elim
  | _ :: _, [], h => h.elim
theorem All2.imp {P' : α → β → Prop} (k : ∀ a b, P a b → P' a b) : ∀ {l : List α} {m : List β}, All2 P l m → All2 P' l m
  | [], [], _ => trivial
  | _ :: as, _ :: bs, h => ⟨k _ _ h.1, All2.imp k h.2⟩
  | [], _ :: _, h => h.elim
  | _ :: _, [], h => h.elim
theorem All2.mem : ∀ {l : List α} {m : List β}, All2 P l m → ∀ b ∈ m, ∃ a ∈ l, P a b
  | [], [], _, _, hb => nomatch hb
  | a :: as, b :: bs, h, x, hx => by
    rcases List.mem_cons.mp hx with rfl | hx
    · exact ⟨a, List.mem_cons_self, h.1⟩
    · obtain ⟨y, h1, h2⟩ := All2.mem h.2 x hx
      exact ⟨y, List.mem_cons_of_mem _ h1, h2⟩
  | [], _ :: _, h, _, _ => h.elim
  | _ :: _, [], h, _, _ => h.elim
theorem All2.map {γ : Type} {f : α → γ} {g : β → γ} : ∀ {l : List α} {m : List β}, All2 (fun a b => g b = f a) l m → m.map g = l.map f
  | [], [], _ => rfl
  | _ :: as, _ :: bs, h => by rw [List.map_cons, List.map_cons, h.1, All2.map h.2]
  | [], _ :: _, h => h.elim
  | _ :: _, [], h => h.elim
variable {C : Sto → Prop} {f : D → Sto → Res (Option D)} {Q : List D → Sto → Prop}
theorem loopQ_e (enc : α → D) (e : β → D) (P : α → β → Prop) (I : Sto → Prop) (l : List α) (h : ∀ x ∈ l, ∀ S, I S → C S ∧ W (f (enc x) S) fun o S' => ∃ y, o = some (e y) ∧ I S' ∧ P x y) (q : ∀ ys S, All2 P l ys → I S → C S ∧ Q (ys.map e) S) (S : Sto) (i : I S) : W (loopQ C f (l.map enc) S) Q := by
  induction l generalizing S Q with
  | nil =>
    rw [List.map_nil, loopQ, W_ask, W_ok]
    exact q [] S trivial i
  | cons x l ih =>
    rw [List.map_cons, loopQ, W_ask, W_bind]
    obtain ⟨k1, k2⟩ := h x List.mem_cons_self S i
    refine ⟨k1, W_mono k2 fun o S' ⟨y, eo, i', p⟩ => ?_⟩
    subst eo
    rw [W_bind]
    refine ih (fun z hz => h z (List.mem_cons_of_mem _ hz)) (Q := fun r S2 => W (.ok (e y :: r) S2) Q) (fun ys S2 a i2 => ?_) S' i'
    obtain ⟨c1, c2⟩ := q (y :: ys) S2 ⟨p, a⟩ i2
    exact ⟨c1, (W_ok (Q := Q)).symm ▸ c2⟩
theorem loopQ_m (enc : α → D) (g : α → D) (I : Sto → Prop) (l : List α) (h : ∀ x ∈ l, ∀ S, I S → C S ∧ W (f (enc x) S) fun o S' => o = some (g x) ∧ I S') (q : ∀ S, I S → C S ∧ Q (l.map g) S) (S : Sto) (i : I S) : W (loopQ C f (l.map enc) S) Q := by
  refine loopQ_e enc (fun d : D => d) (fun a b => b = g a) I l (fun x hx S i => ⟨(h x hx S i).1, W_mono (h x hx S i).2 fun o S' ⟨e1, e2⟩ => ⟨g x, e1, e2, rfl⟩⟩) (fun ys S a i => ?_) S i
  have := All2.map (f := g) (g := fun d : D => d) a
  rw [this]
  exact q S i
theorem loopQ_f (enc : α → D) (p : α → Bool) (g : α → D) (I : Sto → Prop) (l : List α) (h : ∀ x ∈ l, ∀ S, I S → C S ∧ W (f (enc x) S) fun o S' => o = (if p x = true then some (g x) else none) ∧ I S') (q : ∀ S, I S → C S ∧ Q ((l.filter p).map g) S) (S : Sto) (i : I S) : W (loopQ C f (l.map enc) S) Q := by
  induction l generalizing S Q with
  | nil =>
    rw [List.map_nil, loopQ, W_ask, W_ok]
    exact q S i
  | cons x l ih =>
    rw [List.map_cons, loopQ, W_ask, W_bind]
    obtain ⟨k1, k2⟩ := h x List.mem_cons_self S i
    refine ⟨k1, W_mono k2 fun o S' ⟨eo, i'⟩ => ?_⟩
    subst eo
    rw [W_bind]
    refine ih (fun z hz => h z (List.mem_cons_of_mem _ hz)) (Q := fun r S2 => W (.ok (match (if p x = true then some (g x) else none) with | some y => y :: r | none => r) S2) Q) (fun S2 i2 => ?_) S' i'
    obtain ⟨c1, c2⟩ := q S2 i2
    refine ⟨c1, (W_ok (Q := Q)).symm ▸ ?_⟩
    rw [List.filter_cons] at c2
    by_cases hp : p x = true
    · rw [if_pos hp] at c2 ⊢
      exact c2
    · rw [if_neg hp] at c2 ⊢
      exact c2
end
section
variable {α : Type} {C : Sto → Prop} {f : D → En → Sto → Res Fl} {Q : Fl → Sto → Prop}
theorem loopS_e (enc : α → D) (I : List α → En → Sto → Prop)
    (h : ∀ x r ρ S, I (x :: r) ρ S → C S ∧ W (f (enc x) ρ S) fun fl S' => ∃ ρ', (fl = .nx ρ' ∨ fl = .ct ρ') ∧ I r ρ' S')
    (h0 : ∀ ρ S, I [] ρ S → C S ∧ Q (.nx ρ) S) (l : List α) (ρ : En) (S : Sto) (i : I l ρ S) : W (loopS C f (l.map enc) ρ S) Q := by
  refine loopS_w (fun ds ρ S => ∃ r : List α, ds = r.map enc ∧ I r ρ S) ?_ ?_ _ _ _ ⟨l, rfl, i⟩
  · rintro d ds ρ S ⟨r, e, i⟩
    cases r with
    | nil => exact absurd e (by simp)
    | cons x r =>
    rw [List.map_cons, List.cons.injEq] at e
    obtain ⟨rfl, rfl⟩ := e
    obtain ⟨c, w⟩ := h x r ρ S i
    exact ⟨c, W_mono w fun fl S' ⟨ρ', e, i'⟩ => ⟨ρ', e, r, rfl, i'⟩⟩
  · rintro ρ S ⟨r, e, i⟩
    cases r with
    | cons x r => exact absurd e (by simp)
    | nil => exact h0 ρ S i
/-- a walk that may go back early -/
theorem loopS_re (enc : α → D) (I : List α → En → Sto → Prop)
    (h : ∀ x r ρ S, I (x :: r) ρ S → C S ∧ W (f (enc x) ρ S) fun fl S' => match fl with
      | .nx ρ' => I r ρ' S'
      | .ct ρ' => I r ρ' S'
      | .bk ρ' => Q (.nx ρ') S'
      | .rt x => Q (.rt x) S')
    (h0 : ∀ ρ S, I [] ρ S → C S ∧ Q (.nx ρ) S) (l : List α) (ρ : En) (S : Sto) (i : I l ρ S) : W (loopS C f (l.map enc) ρ S) Q := by
  refine loopS_r (fun ds ρ S => ∃ r : List α, ds = r.map enc ∧ I r ρ S) ?_ ?_ _ _ _ ⟨l, rfl, i⟩
  · rintro d ds ρ S ⟨r, e, i⟩
    cases r with
    | nil => exact absurd e (by simp)
    | cons x r =>
    rw [List.map_cons, List.cons.injEq] at e
    obtain ⟨rfl, rfl⟩ := e
    obtain ⟨c, w⟩ := h x r ρ S i
    refine ⟨c, W_mono w fun fl S' k => ?_⟩
    cases fl with
    | nx ρ' => exact ⟨r, rfl, k⟩
    | ct ρ' => exact ⟨r, rfl, k⟩
    | bk ρ' => exact k
    | rt x => exact k
  · rintro ρ S ⟨r, e, i⟩
    cases r with
    | cons x r => exact absurd e (by simp)
    | nil => exact h0 ρ S i
end
theorem rgD_nat (i j : Nat) (h : i ≤ j) : rgD (i : Int) (j : Int) = (List.range' i (j - i)).map natD := by
  have e : ((j : Int) - (i : Int)).toNat = j - i := by omega
  unfold rgD
  rw [e, List.range'_eq_map_range, List.map_map]
  exact List.map_congr_left fun k _ => by simp [natD]
theorem rgdD_nat (n : Nat) : rgdD ((n : Int) - 1) (-1) = (List.range n).reverse.map natD := by
  have e : ((n : Int) - 1 - -1).toNat = n := by omega
  unfold rgdD
  rw [e]
  refine List.ext_getElem (by simp) fun k h1 h2 => ?_
  simp only [List.length_map, List.length_range] at h1
  simp only [List.getElem_map, List.getElem_range, List.getElem_reverse, List.length_range, natD]
  congr 1
  omega
/-- no number of the store in it -/
theorem below_mono {m n : Nat} (h : m ≤ n) : ∀ d, below m d → below n d
  | .non, _ => trivial
  | .bl _, _ => trivial
  | .int _, _ => trivial
  | .str _, _ => trivial
  | .tup ds, k => all ds k
  | .fix ds, k => all ds k
  | .ref i, k => Nat.lt_of_lt_of_le (show i < m from k) h
where
  all : ∀ ds, belows m ds → belows n ds
    | [], _ => trivial
    | d :: ds, k => ⟨below_mono h d k.1, all ds k.2⟩
abbrev Pd (d : D) : Prop := below 0 d
theorem Pd.b {d : D} (h : Pd d) (n : Nat) : below n d := below_mono (Nat.zero_le n) d h
theorem pd_tup {l : List D} : Pd (.tup l) ↔ ∀ d ∈ l, Pd d := belows_iff
theorem pd_map {α : Type} {l : List α} {f : α → D} (h : ∀ x ∈ l, Pd (f x)) : Pd (.tup (l.map f)) := pd_tup.mpr fun d hd => by
  obtain ⟨x, hx, rfl⟩ := List.mem_map.mp hd
  exact h x hx
end PQ

/-! Lists of the store, walked or asked. -/
namespace PQ
open PySem PySem.Spec PyProof.Rows L2
section
variable {α : Type} {S : Sto} {a : Nat} {ds : List D}
theorem ls_lst (k : S[a]? = some (.lst ds)) : lsOf S (.val (.ref a)) = some ds := by simp only [lsOf, k]
theorem sq_lst (k : S[a]? = some (.lst ds)) : sqOf S (.val (.ref a)) = some ds := ls_lst k
theorem tr_lst (k : S[a]? = some (.lst ds)) : trOf S (.val (.ref a)) = some ds := by simp only [trOf, k]
theorem lst_lst (k : S[a]? = some (.lst ds)) : lstOf S (.val (.ref a)) = some ds := sq_lst k
theorem it_lst (k : S[a]? = some (.lst ds)) : itOf (.val (.ref a)) S = some ⟨ds, some a⟩ := by simp only [itOf, sq_lst k, Option.map_some]
theorem w_mayI {f : Itv → Res α} {Q : α → Sto → Prop} (k : S[a]? = some (.lst ds)) (h : W (f ⟨ds, some a⟩) Q) : W (may (itOf (.val (.ref a)) S) f) Q := w_may (it_lst k) h
theorem w_mayL {f : List D → Res α} {Q : α → Sto → Prop} (k : S[a]? = some (.lst ds)) (h : W (f ds) Q) : W (may (lsOf S (.val (.ref a))) f) Q := w_may (ls_lst k) h
theorem w_mayS {f : List D → Res α} {Q : α → Sto → Prop} (k : S[a]? = some (.lst ds)) (h : W (f ds) Q) : W (may (sqOf S (.val (.ref a))) f) Q := w_may (sq_lst k) h
theorem w_mayT {f : List D → Res α} {Q : α → Sto → Prop} (k : S[a]? = some (.lst ds)) (h : W (f ds) Q) : W (may (trOf S (.val (.ref a))) f) Q := w_may (tr_lst k) h
theorem w_mayO {f : List D → Res α} {Q : α → Sto → Prop} (k : S[a]? = some (.lst ds)) (h : W (f ds) Q) : W (may (lstOf S (.val (.ref a))) f) Q := w_may (lst_lst k) h
theorem so_lst (k : S[a]? = some (.lst ds)) : soOf S (.val (.ref a)) = some ds := by simp only [soOf, ls_lst k]
theorem so_own : soOf S (.own ds) = some ds := rfl
theorem w_mayV {f : List D → Res α} {Q : α → Sto → Prop} (k : S[a]? = some (.lst ds)) (h : W (f ds) Q) : W (may (soOf S (.val (.ref a))) f) Q := w_may (so_lst k) h
theorem strKeys_of : ∀ {ks : List (Key × D)} {xs : List Str}, ks.map (·.1) = xs.map Sum.inr → strKeys ks = some (xs.map D.str)
  | [], [], _ => rfl
  | (k, d) :: ks, x :: xs, h => by
    rw [List.map_cons, List.map_cons] at h
    injection h with h1 h2
    have h1 : k = .inr x := h1
    subst h1
    show (strKeys ks).map (D.str x :: ·) = _
    rw [strKeys_of h2]
    rfl
  | [], _ :: _, h => nomatch h
  | _ :: _, [], h => nomatch h
theorem so_dic {ks : List (Key × D)} {xs : List Str} (k : S[a]? = some (.dic ks)) (e : ks.map (·.1) = xs.map Sum.inr) : soOf S (.val (.ref a)) = some (xs.map D.str) := by
  simp only [soOf, lsOf, dicOf, k]
  exact strKeys_of e
theorem toPs_strs' (xs : List Str) : toPs S (xs.map D.str) = some (xs.map PyData.str) := toPs_strs xs
theorem v_sortS {xs : List Str} {Q : List D → Sto → Prop} (h : Q ((xs.mergeSort (PySem.W.dataLe false PyData.str)).map D.str) S) : W (sortD S (xs.map D.str)) Q := by
  have e1' : (xs.map D.str).mergeSort (PySem.W.dataLe false fun d => (toP S d).getD .none) = (xs.mergeSort (PySem.W.dataLe false PyData.str)).map D.str :=
    (List.map_mergeSort (r := PySem.W.dataLe false PyData.str) (s := PySem.W.dataLe false fun d : D => (toP S d).getD .none) (f := D.str) (l := xs) (fun a _ b _ => rfl)).symm
  unfold sortD
  rw [toPs_strs]
  simp only []
  rw [W_ask, e1']
  refine ⟨⟨.of fun _ _ => by simp [PySem.W.alike], .others fun b => ⟨fun h => PyData.noConfusion h, fun _ h => PyData.noConfusion h⟩, fun p hp => ?_⟩, by simpa using h⟩
  obtain ⟨b, _, rfl⟩ := List.mem_map.mp hp
  simp [PyData.depth]
theorem v_insD {i : Int} {v : D} {Q : D → Sto → Prop} (k : S[a]? = some (.lst ds)) (h0 : 0 ≤ i) (h1 : i < 2 ^ 63) (hl : ds.length < sizeLine) (h : Q .non (S.set a (.lst (ds.take i.toNat ++ [v] ++ ds.drop i.toNat)))) : W (insD (.ref a) (.int i) v S) Q := by
  have h2 : i < 9223372036854775808 := by omega
  simpa [insD, withL, k, h0, h2, hl] using h
theorem v_lenR {Q : D → Sto → Prop} (k : S[a]? = some (.lst ds)) (h : Q (.int ds.length) S) : W (aggD .len (.val (.ref a)) S) Q := v_len (sq_lst k) h
theorem v_tupleR {Q : D → Sto → Prop} (k : S[a]? = some (.lst ds)) (h : Q (.tup ds) S) : W (aggD .tuple (.val (.ref a)) S) Q := v_tuple (sq_lst k) h
end
end PQ

namespace K13
open PySem PySem.Spec PyProof.Rows L2 PQ
abbrev P : Program := PySem.Challenge.pw_everygrown_k13_paths_and_parts
def top (i : Nat) : Stmt := P.main.body.getD i (.Pass ⟨0, 0, 0, 0⟩)
def names : List Str := ((["is_number", "is_between", "rule_at", "slots_of", "flat", "paths_of", "nodes_of", "part_at", "put_at", "name_at", "_law_begin", "_law_draw", "_law_pick", "_law_shuffled", "_law_some", "_law_is_int", "_law_letter", "_law_ties", "_law_marks", "_law_rule", "_law_arity", "_law_rules", "_law_parts", "_law_flat", "_law_steps", "_law_joined", "_law_least", "_law_build", "_law_is_build", "_law_laid"] : List Str) ++ (["_law_grow", "_law_put", "_law_paths", "_law_names_along", "_law_dress", "_law_titles", "_law_land", "_law_loops", "_law_sized", "_law_nodes_right", "_law_names_right", "_law_outlined", "_law_put_right", "_law_renamed", "_law_places", "law"] : List Str))
def B : List Str := ["len", "range", "tuple", "int", "sorted", "isinstance", "list", "sum", "min", "max", "all", "str", "abs", "bool"]
def Gs : List (Str × Gv) := []

/-! ### the defs, in the small language -/
def b_is_number : CSs := (.cons (.ret (.and (.isi (.var 0) .int) (.not (.isi (.var 0) .bool)))) .nil)
def b_is_between : CSs := (.cons (.ret (.and (.call 0 (.cons (.var 0) .nil)) (.chn .le .le (.var 1) (.var 0) (.var 2)))) .nil)
def b_rule_at_1 : CSs := (.cons (.ret (.idx (.idx (.var 0) (.lit (.int 2))) (.var 1))) .nil)
def b_rule_at : CSs := (.cons (.ite (.not (.v (.call 1 (.cons (.var 1) (.cons (.lit (.int 0)) (.cons (.bin .sub (.agg .len (.e (.idx (.var 0) (.lit (.int 2))))) (.lit (.int 1))) .nil)))))) (.cons .raise .nil) .nil) b_rule_at_1)
def b_slots_of : CSs := (.cons (.ret (.idx (.call 2 (.cons (.var 0) (.cons (.var 1) .nil))) (.lit (.int 3)))) .nil)
def b_flat_3 : CSs := (.cons (.ex (.app (.var 3) (.tup (.cons (.idx (.var 7) (.var 8)) (.cons (.var 6) .nil))))) .nil)
def b_flat_2 : CSs := (.cons (.set (.nm 7) (.ife (.v (.isN (.var 4))) (.tup .nil) (.idx (.var 4) (.neg (.lit (.int 1)))))) (.cons (.for (.nm 8) (.rgd (.bin .sub (.agg .len (.e (.var 7))) (.lit (.int 1))) (.neg (.lit (.int 1)))) b_flat_3) .nil))
def b_flat_1 : CSs := (.cons (.set (.tup [ 4 , 5 ]) (.pop (.var 3))) (.cons (.set (.nm 6) (.agg .len (.e (.var 1)))) (.cons (.ex (.app (.var 1) (.var 4))) (.cons (.ex (.app (.var 2) (.alloc (.disp .nil)))) (.cons (.ite (.v (.cmp .ge (.var 5) (.lit (.int 0)))) (.cons (.ex (.app (.idx (.var 2) (.var 5)) (.var 6))) .nil) .nil) b_flat_2)))))
def b_flat_4 : CSs := (.cons (.ret (.tup (.cons (.var 1) (.cons (.var 2) .nil)))) .nil)
def b_flat : CSs := (.cons (.par 1 2 (.alloc (.disp .nil)) (.alloc (.disp .nil))) (.cons (.set (.nm 3) (.alloc (.disp (.cons (.tup (.cons (.var 0) (.cons (.neg (.lit (.int 1))) .nil))) .nil)))) (.cons (.while (.v (.cmp .gt (.agg .len (.e (.var 3))) (.lit (.int 0)))) b_flat_1) b_flat_4)))
def b_paths_of_2 : CSs := (.cons (.sub (.var 1) (.idx (.idx (.var 0) (.var 2)) (.var 3)) (.bin .add (.idx (.var 1) (.var 2)) (.tup (.cons (.var 3) .nil)))) .nil)
def b_paths_of_1 : CSs := (.cons (.for (.nm 3) (.rg (.lit (.int 0)) (.agg .len (.e (.idx (.var 0) (.var 2))))) b_paths_of_2) .nil)
def b_paths_of_3 : CSs := (.cons (.ret (.var 1)) .nil)
def b_paths_of : CSs := (.cons (.set (.nm 1) (.alloc (.comp [ 2 ] (.nm 2) (.r (.e (.var 0))) (.tup .nil)))) (.cons (.for (.nm 2) (.rg (.lit (.int 0)) (.agg .len (.e (.var 0)))) b_paths_of_1) b_paths_of_3))
def b_nodes_of : CSs := (.cons (.set (.tup [ 1 , 2 ]) (.call 4 (.cons (.var 0) .nil))) (.cons (.set (.nm 3) (.call 5 (.cons (.var 2) .nil))) (.cons (.ret (.agg .tuple (.q (.comp [ 4 ] (.nm 4) (.rg (.lit (.int 0)) (.agg .len (.e (.var 1)))) (.tup (.cons (.idx (.var 3) (.var 4)) (.cons (.idx (.var 1) (.var 4)) .nil))))))) .nil)))
def b_part_at_1 : CSs := (.cons (.set (.nm 0) (.idx (.idx (.var 0) (.neg (.lit (.int 1)))) (.var 2))) .nil)
def b_part_at_2 : CSs := (.cons (.ret (.var 0)) .nil)
def b_part_at : CSs := (.cons (.for (.nm 2) (.r (.e (.var 1))) b_part_at_1) b_part_at_2)
def b_put_at_1 : CSs := (.cons (.ex (.app (.var 3) (.idx (.idx (.idx (.var 3) (.neg (.lit (.int 1)))) (.neg (.lit (.int 1)))) (.var 4)))) .nil)
def b_put_at_3 : CSs := (.cons (.set (.nm 7) (.alloc (.list (.e (.idx (.idx (.var 3) (.var 6)) (.neg (.lit (.int 1)))))))) (.cons (.sub (.var 7) (.idx (.var 1) (.var 6)) (.var 5)) (.cons (.set (.nm 5) (.bin .add (.slc (.idx (.var 3) (.var 6)) .none (.some (.neg (.lit (.int 1))))) (.tup (.cons (.agg .tuple (.e (.var 7))) .nil)))) .nil)))
def b_put_at_4 : CSs := (.cons (.ret (.var 5)) .nil)
def b_put_at_2 : CSs := (.cons (.set (.nm 5) (.var 2)) (.cons (.for (.nm 6) (.rgd (.bin .sub (.agg .len (.e (.var 1))) (.lit (.int 1))) (.neg (.lit (.int 1)))) b_put_at_3) b_put_at_4))
def b_put_at : CSs := (.cons (.set (.nm 3) (.alloc (.disp (.cons (.var 0) .nil)))) (.cons (.for (.nm 4) (.r (.e (.var 1))) b_put_at_1) b_put_at_2))
def b_name_at_1 : CSs := (.cons (.set (.nm 1) (.idx (.idx (.call 3 (.cons (.var 0) (.cons (.idx (.var 2) (.lit (.int 0))) .nil))) (.var 4)) (.lit (.int 0)))) (.cons (.set (.nm 2) (.idx (.idx (.var 2) (.neg (.lit (.int 1)))) (.var 4))) .nil))
def b_name_at_2 : CSs := (.cons (.ret (.var 1)) .nil)
def b_name_at : CSs := (.cons (.for (.nm 4) (.r (.e (.var 3))) b_name_at_1) b_name_at_2)
def b__law_begin : CSs := (.cons (.ret (.alloc (.disp (.cons (.alloc (.comp [ 1 ] (.nm 1) (.r (.e (.var 0))) (.fn1 .int (.var 1)))) (.cons (.lit (.int 0)) (.cons (.lit (.int 0)) (.cons (.lit (.int 5)) .nil))))))) .nil)
def b__law_draw_3 : CSs := (.cons (.sub (.var 0) (.lit (.int 3)) (.bin .mod (.fn1 .int (.bin .add (.bin .add (.bin .add (.bin .mul (.idx (.var 0) (.lit (.int 3))) (.lit (.int 48271))) (.bin .mul (.bin .mod (.fn1 .int (.var 3)) (.lit (.int 2147483629))) (.lit (.int 16807)))) (.bin .mul (.idx (.var 0) (.lit (.int 1))) (.lit (.int 69621)))) (.lit (.int 11)))) (.lit (.int 2147483647)))) (.cons (.ret (.bin .mod (.fn1 .int (.bin .fdiv (.idx (.var 0) (.lit (.int 3))) (.lit (.int 16)))) (.var 1))) .nil))
def b__law_draw_2 : CSs := (.cons (.augS (.var 0) (.lit (.int 1)) .add (.lit (.int 1))) (.cons (.ite (.v (.cmp .ge (.var 3) (.bin .mul (.lit (.int 2)) (.bin .pow (.lit (.int 10)) (.lit (.int 18)))))) (.cons (.set (.nm 2) (.bin .mod (.fn1 .int (.bin .fdiv (.var 3) (.lit (.int 2)))) (.bin .shl (.lit (.int 1)) (.lit (.int 6000))))) (.cons (.sub (.var 0) (.lit (.int 2)) (.bin .fdiv (.var 2) (.var 1))) (.cons (.ret (.bin .mod (.fn1 .int (.var 2)) (.var 1))) .nil))) .nil) b__law_draw_3))
def b__law_draw_1 : CSs := (.cons (.set (.nm 3) (.lit (.int 0))) (.cons (.ite (.v (.cmp .lt (.idx (.var 0) (.lit (.int 1))) (.agg .len (.e (.idx (.var 0) (.lit (.int 0))))))) (.cons (.set (.nm 4) (.idx (.idx (.var 0) (.lit (.int 0))) (.idx (.var 0) (.lit (.int 1))))) (.cons (.set (.nm 3) (.bin .add (.bin .mul (.lit (.int 2)) (.fn1 .abs (.var 4))) (.fn1 .int (.cmp .lt (.var 4) (.lit (.int 0)))))) .nil)) .nil) b__law_draw_2))
def b__law_draw : CSs := (.cons (.ite (.v (.cmp .gt (.idx (.var 0) (.lit (.int 2))) (.lit (.int 0)))) (.cons (.set (.nm 2) (.idx (.var 0) (.lit (.int 2)))) (.cons (.sub (.var 0) (.lit (.int 2)) (.bin .fdiv (.var 2) (.var 1))) (.cons (.ret (.bin .mod (.fn1 .int (.var 2)) (.var 1))) .nil))) .nil) b__law_draw_1)
def b__law_pick : CSs := (.cons (.ret (.idx (.var 1) (.call 11 (.cons (.var 0) (.cons (.agg .len (.e (.var 1))) .nil))))) .nil)
def b__law_shuffled_1 : CSs := (.cons (.ex (.app (.var 3) (.popAt (.var 2) (.call 11 (.cons (.var 0) (.cons (.agg .len (.e (.var 2))) .nil)))))) .nil)
def b__law_shuffled_2 : CSs := (.cons (.ret (.var 3)) .nil)
def b__law_shuffled : CSs := (.cons (.set (.nm 2) (.alloc (.list (.e (.var 1))))) (.cons (.set (.nm 3) (.alloc (.disp .nil))) (.cons (.for (.nm 4) (.rg (.lit (.int 0)) (.agg .len (.e (.var 2)))) b__law_shuffled_1) b__law_shuffled_2)))
def b__law_some : CSs := (.cons (.ret (.slc (.call 13 (.cons (.var 0) (.cons (.var 1) .nil))) .none (.some (.var 2)))) .nil)
def b__law_is_int : CSs := (.cons (.ret (.and (.isi (.var 0) .int) (.not (.isi (.var 0) .bool)))) .nil)
def b__law_letter : CSs := (.cons (.ret (.idx (.lit (.str "abcdefghijklmnopqrstuvwxyz")) (.call 11 (.cons (.var 0) (.cons (.lit (.int 26)) .nil))))) .nil)
def b__law_ties_1 : CSs := (.cons (.set (.nm 6) (.alloc (.sorted (.e (.call 14 (.cons (.var 0) (.cons (.alloc (.listRg (.lit (.int 0)) (.var 1))) (.cons (.lit (.int 2)) .nil)))))))) (.cons (.ex (.app (.var 4) (.tup (.cons (.idx (.var 6) (.lit (.int 0))) (.cons (.idx (.var 6) (.lit (.int 1))) (.cons (.call 12 (.cons (.var 0) (.cons (.var 3) .nil))) .nil)))))) .nil))
def b__law_ties_2 : CSs := (.cons (.ret (.agg .tuple (.q (.sorted (.e (.var 4)))))) .nil)
def b__law_ties : CSs := (.cons (.set (.nm 4) (.alloc (.disp .nil))) (.cons (.ite (.v (.cmp .ge (.var 1) (.lit (.int 2)))) (.cons (.for (.nm 5) (.rg (.lit (.int 0)) (.var 2)) b__law_ties_1) .nil) .nil) b__law_ties_2))
def b__law_marks : CSs := (.cons (.ret (.join "" (.q (.comp [ 3 ] (.nm 3) (.rg (.lit (.int 0)) (.var 1)) (.call 12 (.cons (.var 0) (.cons (.var 2) .nil))))))) .nil)
def b__law_rule : CSs := (.cons (.set (.nm 7) (.agg .max (.q (.cat (.q (.disp (.cons (.var 3) .nil))) (.q (.comp [ 10 ] (.nm 10) (.r (.e (.var 2))) (.bin .sub (.idx (.var 10) (.lit (.int 1))) (.idx (.var 1) (.lit (.int 1)))))))))) (.cons (.set (.nm 8) (.bin .add (.idx (.var 1) (.lit (.int 1))) (.var 7))) (.cons (.set (.nm 9) (.agg .tuple (.q (.comp [ 10 ] (.nm 10) (.r (.e (.var 2))) (.tup (.cons (.idx (.var 10) (.lit (.int 0))) (.cons (.agg .tuple (.e (.call 14 (.cons (.var 0) (.cons (.alloc (.listRg (.lit (.int 0)) (.var 8))) (.cons (.idx (.var 10) (.lit (.int 1))) .nil)))))) .nil))))))) (.cons (.ret (.tup (.cons (.idx (.var 1) (.lit (.int 0))) (.cons (.call 18 (.cons (.var 0) (.cons (.var 7) (.cons (.var 5) .nil)))) (.cons (.call 17 (.cons (.var 0) (.cons (.var 8) (.cons (.var 4) (.cons (.var 6) .nil))))) (.cons (.var 9) .nil)))))) .nil))))
def b__law_arity_1 : CSs := (.cons (.ite (.v (.cmp .eq (.var 2) (.var 1))) (.cons (.ret (.var 3)) .nil) .nil) .nil)
def b__law_arity_2 : CSs := (.cons (.ret (.lit (.int 0))) .nil)
def b__law_arity : CSs := (.cons (.for (.tup [ 2 , 3 ]) (.r (.e (.idx (.var 0) (.lit (.int 1))))) b__law_arity_1) b__law_arity_2)
def b__law_rules : CSs := (.cons (.ret (.alloc (.compIf [ 2 ] (.nm 2) (.rg (.lit (.int 0)) (.agg .len (.e (.idx (.var 0) (.lit (.int 2)))))) (.v (.cmp .eq (.idx (.idx (.idx (.var 0) (.lit (.int 2))) (.var 2)) (.lit (.int 0))) (.var 1))) (.var 2)))) .nil)
def b__law_parts_1 : CSs := (.cons (.ret (.ife (.v (.isi (.idx (.var 0) (.lit (.int 0))) .str)) (.alloc (.list (.e (.slc (.var 0) (.some (.lit (.int 1))) .none)))) (.alloc (.list (.e (.idx (.var 0) (.neg (.lit (.int 1))))))))) .nil)
def b__law_parts : CSs := (.cons (.ite (.or (.v (.isN (.var 0))) (.v (.inr (.idx (.var 0) (.lit (.int 0))) (.e (.tup (.cons (.lit (.str "least")) (.cons (.lit (.str "rest")) .nil))))))) (.cons (.ret (.alloc (.disp .nil))) .nil) .nil) b__law_parts_1)
def b__law_flat_3 : CSs := (.cons (.ex (.ext (.var 3) (.q (.comp [ 7 ] (.nm 7) (.r (.q (.rev (.e (.call 22 (.cons (.var 5) .nil)))))) (.tup (.cons (.var 7) (.cons (.agg .len (.e (.var 1))) .nil))))))) (.cons (.ex (.app (.var 1) (.var 5))) (.cons (.ex (.app (.var 2) (.alloc (.disp .nil)))) .nil)))
def b__law_flat_2 : CSs := (.cons (.set (.tup [ 5 , 6 ]) (.pop (.var 3))) (.cons (.ite (.v (.cmp .ge (.var 6) (.lit (.int 0)))) (.cons (.ex (.app (.idx (.var 2) (.var 6)) (.agg .len (.e (.var 1))))) .nil) .nil) b__law_flat_3))
def b__law_flat_1 : CSs := (.cons (.ite (.v (.cmp .eq (.agg .len (.e (.var 3))) (.lit (.int 0)))) (.cons (.ret (.alloc (.disp (.cons (.var 1) (.cons (.var 2) .nil))))) .nil) .nil) b__law_flat_2)
def b__law_flat_4 : CSs := (.cons (.ret (.alloc (.disp (.cons (.var 1) (.cons (.var 2) .nil))))) .nil)
def b__law_flat : CSs := (.cons (.set (.tup [ 1 , 2 ]) (.tup (.cons (.alloc (.disp .nil)) (.cons (.alloc (.disp .nil)) .nil)))) (.cons (.set (.nm 3) (.alloc (.disp (.cons (.tup (.cons (.var 0) (.cons (.neg (.lit (.int 1))) .nil))) .nil)))) (.cons (.for (.nm 4) (.rg (.lit (.int 0)) (.lit (.int 5000))) b__law_flat_1) b__law_flat_4)))
def b__law_steps : CSs := (.cons (.ret (.agg .len (.e (.idx (.call 23 (.cons (.var 0) .nil)) (.lit (.int 0)))))) .nil)
def b__law_joined_1 : CSs := (.cons (.set (.tup [ 3 , 4 ]) (.idx (.var 0) (.bin .sub (.bin .sub (.agg .len (.e (.var 0))) (.lit (.int 1))) (.var 2)))) (.cons (.set (.nm 5) (.alloc (.comp [ 6 ] (.nm 6) (.rg (.lit (.int 0)) (.var 4)) (.pop (.var 1))))) (.cons (.ex (.app (.var 1) (.tup (.cons (.var 3) (.cons (.agg .tuple (.e (.var 5))) .nil))))) .nil)))
def b__law_joined_2 : CSs := (.cons (.ret (.idx (.var 1) (.lit (.int 0)))) .nil)
def b__law_joined : CSs := (.cons (.set (.nm 1) (.alloc (.disp .nil))) (.cons (.for (.nm 2) (.rg (.lit (.int 0)) (.agg .len (.e (.var 0)))) b__law_joined_1) b__law_joined_2))
def b__law_least_2 : CSs := (.cons (.ite (.v (.agg .all (.q (.comp [ 5 ] (.nm 5) (.r (.e (.idx (.var 3) (.lit (.int 3))))) (.inr (.idx (.var 5) (.lit (.int 0))) (.e (.var 1))))))) (.cons (.set (.nm 4) (.bin .add (.lit (.int 1)) (.agg .sum (.q (.comp [ 5 ] (.nm 5) (.r (.e (.idx (.var 3) (.lit (.int 3))))) (.idx (.var 1) (.idx (.var 5) (.lit (.int 0))))))))) (.cons (.ite (.or (.v (.notInr (.idx (.var 3) (.lit (.int 0))) (.e (.var 1)))) (.v (.cmp .lt (.var 4) (.idx (.var 1) (.idx (.var 3) (.lit (.int 0))))))) (.cons (.sub (.var 1) (.idx (.var 3) (.lit (.int 0))) (.var 4)) .nil) .nil) .nil)) .nil) .nil)
def b__law_least_1 : CSs := (.cons (.for (.nm 3) (.r (.e (.idx (.var 0) (.lit (.int 2))))) b__law_least_2) .nil)
def b__law_least_3 : CSs := (.cons (.ret (.var 1)) .nil)
def b__law_least : CSs := (.cons (.set (.nm 1) .dnew) (.cons (.for (.nm 2) (.rg (.lit (.int 0)) (.agg .len (.e (.idx (.var 0) (.lit (.int 1)))))) b__law_least_1) b__law_least_3))
def b__law_build_4 : CSs := (.cons (.set (.nm 12) (.idx (.idx (.idx (.var 1) (.lit (.int 2))) (.var 11)) (.lit (.int 3)))) (.cons (.ite (.v (.agg .all (.q (.comp [ 15 ] (.nm 15) (.r (.e (.var 12))) (.inr (.idx (.var 15) (.lit (.int 0))) (.e (.var 4))))))) (.cons (.set (.nm 13) (.bin .sub (.bin .add (.lit (.int 1)) (.agg .sum (.q (.comp [ 15 ] (.nm 15) (.r (.e (.var 12))) (.idx (.var 4) (.idx (.var 15) (.lit (.int 0)))))))) (.idx (.var 4) (.var 9)))) (.cons (.ite (.v (.cmp .le (.var 13) (.var 5))) (.cons (.ex (.app (.var 10) (.tup (.cons (.var 13) (.cons (.var 11) .nil))))) .nil) .nil) .nil)) .nil) .nil))
def b__law_build_6 : CSs := (.cons (.ex (.app (.var 7) (.idx (.idx (.var 12) (.bin .sub (.bin .sub (.agg .len (.e (.var 12))) (.lit (.int 1))) (.var 14))) (.lit (.int 0))))) .nil)
def b__law_build_5 : CSs := (.cons (.set (.tup [ 13 , 11 ]) (.call 12 (.cons (.var 0) (.cons (.var 10) .nil)))) (.cons (.aug 5 .sub (.var 13)) (.cons (.set (.nm 12) (.idx (.idx (.idx (.var 1) (.lit (.int 2))) (.var 11)) (.lit (.int 3)))) (.cons (.ex (.app (.var 6) (.tup (.cons (.var 11) (.cons (.agg .len (.e (.var 12))) .nil))))) (.cons (.for (.nm 14) (.rg (.lit (.int 0)) (.agg .len (.e (.var 12)))) b__law_build_6) .nil)))))
def b__law_build_3 : CSs := (.cons (.set (.nm 9) (.pop (.var 7))) (.cons (.set (.nm 10) (.alloc (.disp .nil))) (.cons (.for (.nm 11) (.r (.e (.call 21 (.cons (.var 1) (.cons (.var 9) .nil))))) b__law_build_4) b__law_build_5)))
def b__law_build_2 : CSs := (.cons (.ite (.v (.cmp .eq (.agg .len (.e (.var 7))) (.lit (.int 0)))) (.cons (.ret (.call 25 (.cons (.var 6) .nil))) .nil) .nil) b__law_build_3)
def b__law_build_7 : CSs := (.cons (.ret (.lit .non)) .nil)
def b__law_build_1 : CSs := (.cons (.set (.nm 5) (.fn2 .max (.lit (.int 0)) (.bin .sub (.var 3) (.idx (.var 4) (.var 2))))) (.cons (.set (.nm 6) (.alloc (.disp .nil))) (.cons (.set (.nm 7) (.alloc (.disp (.cons (.var 2) .nil)))) (.cons (.for (.nm 8) (.rg (.lit (.int 0)) (.lit (.int 4000))) b__law_build_2) b__law_build_7))))
def b__law_build : CSs := (.cons (.set (.nm 4) (.call 26 (.cons (.var 1) .nil))) (.cons (.ite (.v (.notInr (.var 2) (.e (.var 4)))) (.cons (.ret (.lit .non)) .nil) .nil) b__law_build_1))
def b__law_is_build_5 : CSs := (.cons (.ex (.app (.var 4) (.tup (.cons (.idx (.idx (.idx (.idx (.idx (.var 0) (.lit (.int 2))) (.idx (.var 7) (.lit (.int 0)))) (.lit (.int 3))) (.var 8)) (.lit (.int 0))) (.cons (.idx (.idx (.var 7) (.lit (.int 1))) (.var 8)) .nil))))) .nil)
def b__law_is_build_4 : CSs := (.cons (.for (.nm 8) (.rg (.lit (.int 0)) (.agg .len (.e (.idx (.var 7) (.lit (.int 1)))))) b__law_is_build_5) .nil)
def b__law_is_build_3 : CSs := (.cons (.ite (.or (.v (.notInr (.idx (.var 7) (.lit (.int 0))) (.e (.call 21 (.cons (.var 0) (.cons (.var 6) .nil)))))) (.v (.cmp .ne (.agg .len (.e (.idx (.var 7) (.lit (.int 1))))) (.agg .len (.e (.idx (.idx (.idx (.var 0) (.lit (.int 2))) (.idx (.var 7) (.lit (.int 0)))) (.lit (.int 3)))))))) (.cons (.ret (.lit (.bl false))) .nil) .nil) b__law_is_build_4)
def b__law_is_build_2 : CSs := (.cons (.set (.tup [ 6 , 7 ]) (.pop (.var 4))) (.cons (.ite (.or (.not (.v (.isi (.var 7) .tuple))) (.or (.v (.cmp .ne (.agg .len (.e (.var 7))) (.lit (.int 2)))) (.or (.not (.v (.call 15 (.cons (.idx (.var 7) (.lit (.int 0))) .nil)))) (.not (.v (.isi (.idx (.var 7) (.lit (.int 1))) .tuple)))))) (.cons (.ret (.lit (.bl false))) .nil) .nil) b__law_is_build_3))
def b__law_is_build_1 : CSs := (.cons (.ite (.v (.cmp .eq (.agg .len (.e (.var 4))) (.lit (.int 0)))) (.cons (.ret (.lit (.bl true))) .nil) .nil) b__law_is_build_2)
def b__law_is_build_6 : CSs := (.cons (.ret (.lit (.bl false))) .nil)
def b__law_is_build : CSs := (.cons (.set (.nm 4) (.alloc (.disp (.cons (.tup (.cons (.var 1) (.cons (.var 2) .nil))) .nil)))) (.cons (.for (.nm 5) (.rg (.lit (.int 0)) (.bin .add (.var 3) (.lit (.int 1)))) b__law_is_build_1) b__law_is_build_6))
def b__law_laid_2 : CSs := (.cons (.ex (.app (.var 7) (.tup (.cons (.fn2 .min (.idx (.var 12) (.var 13)) (.idx (.var 12) (.var 14))) (.cons (.fn2 .max (.idx (.var 12) (.var 13)) (.idx (.var 12) (.var 14))) (.cons (.var 15) .nil)))))) .nil)
def b__law_laid_4 : CSs := (.cons (.sub (.var 5) (.idx (.idx (.var 3) (.var 10)) (.var 16)) (.alloc (.comp [ 18 ] (.nm 18) (.r (.e (.idx (.idx (.idx (.var 11) (.lit (.int 3))) (.var 16)) (.lit (.int 1))))) (.idx (.var 12) (.var 18))))) .nil)
def b__law_laid_3 : CSs := (.cons (.for (.nm 16) (.rg (.lit (.int 0)) (.agg .len (.e (.idx (.var 11) (.lit (.int 3)))))) b__law_laid_4) .nil)
def b__law_laid_1 : CSs := (.cons (.set (.nm 11) (.idx (.idx (.var 0) (.lit (.int 2))) (.idx (.idx (.var 2) (.var 10)) (.lit (.int 0))))) (.cons (.set (.nm 12) (.alloc (.cat (.e (.idx (.var 5) (.var 10))) (.q (.listRg (.var 9) (.bin .add (.var 9) (.agg .len (.e (.idx (.var 11) (.lit (.int 1))))))))))) (.cons (.aug 9 .add (.agg .len (.e (.idx (.var 11) (.lit (.int 1)))))) (.cons (.set (.nm 6) (.bin .add (.var 6) (.idx (.var 11) (.lit (.int 1))))) (.cons (.ex (.app (.var 8) (.agg .tuple (.e (.var 12))))) (.cons (.for (.tup [ 13 , 14 , 15 ]) (.r (.e (.idx (.var 11) (.lit (.int 2))))) b__law_laid_2) b__law_laid_3))))))
def b__law_laid_5 : CSs := (.cons (.ret (.alloc (.disp (.cons (.tup (.cons (.var 4) (.cons (.var 6) (.cons (.agg .tuple (.q (.sorted (.e (.var 7))))) .nil)))) (.cons (.agg .tuple (.e (.var 8))) .nil))))) .nil)
def b__law_laid : CSs := (.cons (.set (.tup [ 2 , 3 ]) (.call 23 (.cons (.var 1) .nil))) (.cons (.set (.nm 4) (.call 20 (.cons (.var 0) (.cons (.idx (.idx (.idx (.var 0) (.lit (.int 2))) (.idx (.var 1) (.lit (.int 0)))) (.lit (.int 0))) .nil)))) (.cons (.set (.nm 5) (.alloc (.comp [ 17 ] (.nm 17) (.r (.e (.var 2))) (.alloc (.listRg (.lit (.int 0)) (.var 4)))))) (.cons (.set (.nm 6) (.lit (.str ""))) (.cons (.set (.nm 7) (.alloc (.disp .nil))) (.cons (.set (.nm 8) (.alloc (.disp .nil))) (.cons (.set (.nm 9) (.var 4)) (.cons (.for (.nm 10) (.rg (.lit (.int 0)) (.agg .len (.e (.var 2)))) b__law_laid_1) b__law_laid_5))))))))
def b__law_grow : CSs := (.cons (.ret (.idx (.call 29 (.cons (.var 0) (.cons (.var 1) .nil))) (.lit (.int 0)))) .nil)
def b__law_put_1 : CSs := (.cons (.ex (.app (.var 3) (.idx (.idx (.idx (.var 3) (.neg (.lit (.int 1)))) (.neg (.lit (.int 1)))) (.var 4)))) .nil)
def b__law_put_3 : CSs := (.cons (.set (.nm 6) (.bin .sub (.bin .sub (.agg .len (.e (.var 1))) (.lit (.int 1))) (.var 4))) (.cons (.set (.nm 7) (.alloc (.list (.e (.idx (.idx (.var 3) (.var 6)) (.neg (.lit (.int 1)))))))) (.cons (.sub (.var 7) (.idx (.var 1) (.var 6)) (.var 5)) (.cons (.set (.nm 5) (.bin .add (.slc (.idx (.var 3) (.var 6)) .none (.some (.neg (.lit (.int 1))))) (.tup (.cons (.agg .tuple (.e (.var 7))) .nil)))) .nil))))
def b__law_put_4 : CSs := (.cons (.ret (.var 5)) .nil)
def b__law_put_2 : CSs := (.cons (.set (.nm 5) (.var 2)) (.cons (.for (.nm 4) (.rg (.lit (.int 0)) (.agg .len (.e (.var 1)))) b__law_put_3) b__law_put_4))
def b__law_put : CSs := (.cons (.set (.nm 3) (.alloc (.disp (.cons (.var 0) .nil)))) (.cons (.for (.nm 4) (.r (.e (.var 1))) b__law_put_1) b__law_put_2))
def b__law_paths_2 : CSs := (.cons (.sub (.var 3) (.idx (.idx (.var 2) (.var 4)) (.var 5)) (.bin .add (.idx (.var 3) (.var 4)) (.tup (.cons (.var 5) .nil)))) .nil)
def b__law_paths_1 : CSs := (.cons (.for (.nm 5) (.rg (.lit (.int 0)) (.agg .len (.e (.idx (.var 2) (.var 4))))) b__law_paths_2) .nil)
def b__law_paths_3 : CSs := (.cons (.ret (.alloc (.comp [ 4 ] (.nm 4) (.rg (.lit (.int 0)) (.agg .len (.e (.var 1)))) (.tup (.cons (.idx (.var 3) (.var 4)) (.cons (.idx (.var 1) (.var 4)) .nil)))))) .nil)
def b__law_paths : CSs := (.cons (.set (.tup [ 1 , 2 ]) (.call 23 (.cons (.var 0) .nil))) (.cons (.set (.nm 3) (.alloc (.comp [ 6 ] (.nm 6) (.r (.e (.var 1))) (.tup .nil)))) (.cons (.for (.nm 4) (.rg (.lit (.int 0)) (.agg .len (.e (.var 1)))) b__law_paths_1) b__law_paths_3)))
def b__law_names_along_2 : CSs := (.cons (.sub (.var 5) (.idx (.idx (.var 4) (.var 6)) (.var 7)) (.idx (.idx (.idx (.idx (.idx (.var 0) (.lit (.int 2))) (.idx (.idx (.var 3) (.var 6)) (.lit (.int 0)))) (.lit (.int 3))) (.var 7)) (.lit (.int 0)))) .nil)
def b__law_names_along_1 : CSs := (.cons (.ite (.v (.notN (.idx (.var 3) (.var 6)))) (.cons (.for (.nm 7) (.rg (.lit (.int 0)) (.agg .len (.e (.idx (.var 4) (.var 6))))) b__law_names_along_2) .nil) .nil) .nil)
def b__law_names_along_3 : CSs := (.cons (.ret (.var 5)) .nil)
def b__law_names_along : CSs := (.cons (.set (.tup [ 3 , 4 ]) (.call 23 (.cons (.var 2) .nil))) (.cons (.set (.nm 5) (.alloc (.comp [ 8 ] (.nm 8) (.r (.e (.var 3))) (.var 1)))) (.cons (.for (.nm 6) (.rg (.lit (.int 0)) (.agg .len (.e (.var 3)))) b__law_names_along_1) b__law_names_along_3)))
def b__law_dress_1 : CSs := (.cons (.set (.nm 8) (.bin .sub (.bin .sub (.agg .len (.e (.var 3))) (.lit (.int 1))) (.var 7))) (.cons (.set (.nm 9) (.agg .tuple (.q (.comp [ 11 ] (.nm 11) (.r (.e (.idx (.var 5) (.var 8)))) (.idx (.var 2) (.var 11)))))) (.cons (.sub (.var 6) (.var 8) (.tup (.cons (.idx (.idx (.var 3) (.var 8)) (.lit (.int 0))) (.cons (.var 9) (.cons (.agg .tuple (.q (.comp [ 12 ] (.nm 12) (.r (.e (.idx (.var 4) (.var 8)))) (.idx (.var 6) (.var 12))))) .nil))))) .nil)))
def b__law_dress_2 : CSs := (.cons (.ret (.idx (.var 6) (.lit (.int 0)))) .nil)
def b__law_dress : CSs := (.cons (.set (.tup [ 3 , 4 ]) (.call 23 (.cons (.var 1) .nil))) (.cons (.set (.nm 5) (.idx (.call 29 (.cons (.var 0) (.cons (.var 1) .nil))) (.lit (.int 1)))) (.cons (.set (.nm 6) (.alloc (.comp [ 10 ] (.nm 10) (.r (.e (.var 3))) (.tup .nil)))) (.cons (.for (.nm 7) (.rg (.lit (.int 0)) (.agg .len (.e (.var 3)))) b__law_dress_1) b__law_dress_2))))
def b__law_titles_1 : CSs := (.cons (.ret (.call 13 (.cons (.var 0) (.cons (.var 10) .nil)))) .nil)
def b__law_titles : CSs := (.cons (.set (.nm 2) (.lit (.str "ABCDEFGHIJKLMNOPQRSTUVWXYZ"))) (.cons (.set (.nm 3) (.lit (.str "abcdefghijklmnopqrstuvwxyz0123456789_ABCDEFGHIJKLMNOPQRSTUVWXYZ"))) (.cons (.set (.nm 4) (.idx (.alloc (.disp (.cons (.lit (.int 1)) (.cons (.lit (.int 2)) (.cons (.lit (.int 3)) (.cons (.lit (.int 4)) (.cons (.lit (.int 7)) (.cons (.lit (.int 60)) .nil)))))))) (.call 11 (.cons (.var 0) (.cons (.lit (.int 6)) .nil))))) (.cons (.set (.nm 5) (.bin .add (.idx (.var 2) (.call 11 (.cons (.var 0) (.cons (.lit (.int 26)) .nil)))) (.bin .mul (.join "" (.q (.comp [ 11 ] (.nm 11) (.rg (.lit (.int 0)) (.lit (.int 3))) (.idx (.var 3) (.call 11 (.cons (.var 0) (.cons (.lit (.int 63)) .nil))))))) (.lit (.int 20))))) (.cons (.set (.nm 6) (.call 11 (.cons (.var 0) (.cons (.lit (.int 3)) .nil)))) (.cons (.set (.nm 7) (.call 11 (.cons (.var 0) (.cons (.var 4) .nil)))) (.cons (.set (.nm 8) (.call 11 (.cons (.var 0) (.cons (.lit (.int 26)) .nil)))) (.cons (.set (.nm 9) (.call 12 (.cons (.var 0) (.cons (.alloc (.disp (.cons (.lit (.int 1)) (.cons (.lit (.int 5)) .nil)))) .nil)))) (.cons (.ite (.or (.v (.cmp .gt (.var 1) (.lit (.int 20)))) (.v (.cmp .eq (.var 6) (.lit (.int 0))))) (.cons (.set (.nm 10) (.alloc (.comp [ 11 ] (.nm 11) (.rg (.lit (.int 0)) (.var 1)) (.bin .add (.slc (.var 5) .none (.some (.fn2 .min (.var 4) (.lit (.int 58))))) (.fn1 .str (.var 11)))))) .nil) (.cons (.ite (.v (.cmp .eq (.var 6) (.lit (.int 1)))) (.cons (.set (.nm 10) (.alloc (.comp [ 11 ] (.nm 11) (.rg (.lit (.int 0)) (.var 1)) (.slc (.var 5) .none (.some (.bin .add (.var 11) (.lit (.int 1)))))))) .nil) (.cons (.ite (.v (.cmp .eq (.var 7) (.lit (.int 0)))) (.cons (.set (.nm 10) (.alloc (.comp [ 11 ] (.nm 11) (.rg (.lit (.int 0)) (.var 1)) (.bin .add (.idx (.var 2) (.bin .mod (.fn1 .int (.bin .add (.var 8) (.bin .mul (.var 11) (.var 9)))) (.lit (.int 26)))) (.slc (.var 5) (.some (.lit (.int 1))) (.some (.var 4))))))) .nil) (.cons (.set (.nm 10) (.alloc (.comp [ 11 ] (.nm 11) (.rg (.lit (.int 0)) (.var 1)) (.bin .add (.bin .add (.slc (.var 5) .none (.some (.var 7))) (.idx (.var 3) (.bin .mod (.fn1 .int (.bin .add (.var 8) (.bin .mul (.var 11) (.var 9)))) (.lit (.int 63))))) (.slc (.var 5) (.some (.bin .add (.var 7) (.lit (.int 1)))) (.some (.var 4))))))) .nil)) .nil)) .nil)) b__law_titles_1)))))))))
def b__law_land_1 : CSs := (.cons (.ite (.v (.cmp .ne (.idx (.var 10) (.lit (.int 0))) (.var 4))) (.cons (.set (.nm 11) (.ife (.v (.var 8)) (.bin .sub (.lit (.int 6)) (.idx (.var 10) (.lit (.int 1)))) (.call 11 (.cons (.var 0) (.cons (.lit (.int 3)) .nil))))) (.cons (.ex (.app (.var 9) (.call 19 (.cons (.var 0) (.cons (.var 10) (.cons (.alloc (.disp .nil)) (.cons (.var 11) (.cons (.call 11 (.cons (.var 0) (.cons (.ife (.v (.var 8)) (.lit (.int 13)) (.lit (.int 3))) .nil))) (.cons (.var 6) (.cons (.var 7) .nil)))))))))) (.cons (.set (.nm 11) (.ife (.v (.var 8)) (.bin .sub (.lit (.int 6)) (.idx (.var 10) (.lit (.int 1)))) (.call 11 (.cons (.var 0) (.cons (.lit (.int 2)) .nil))))) (.cons (.ex (.app (.var 9) (.call 19 (.cons (.var 0) (.cons (.var 10) (.cons (.alloc (.disp (.cons (.var 10) .nil))) (.cons (.var 11) (.cons (.call 11 (.cons (.var 0) (.cons (.ife (.v (.var 8)) (.lit (.int 13)) (.lit (.int 3))) .nil))) (.cons (.var 6) (.cons (.var 7) .nil)))))))))) .nil)))) .nil) .nil)
def b__law_land_3 : CSs := (.cons (.set (.nm 10) (.ife (.v (.cmp .eq (.var 12) (.lit (.int 0)))) (.idx (.var 5) (.lit (.int 0))) (.call 12 (.cons (.var 0) (.cons (.var 5) .nil))))) (.cons (.set (.nm 13) (.alloc (.comp [ 15 ] (.nm 15) (.rg (.lit (.int 0)) (.bin .add (.lit (.int 1)) (.call 11 (.cons (.var 0) (.cons (.lit (.int 3)) .nil))))) (.call 12 (.cons (.var 0) (.cons (.var 5) .nil)))))) (.cons (.ite (.v (.cmp .ne (.idx (.var 10) (.lit (.int 0))) (.var 4))) (.cons (.ex (.app (.var 9) (.call 19 (.cons (.var 0) (.cons (.var 10) (.cons (.var 13) (.cons (.call 11 (.cons (.var 0) (.cons (.lit (.int 3)) .nil))) (.cons (.call 11 (.cons (.var 0) (.cons (.lit (.int 4)) .nil))) (.cons (.var 6) (.cons (.var 7) .nil)))))))))) .nil) .nil) .nil)))
def b__law_land_5 : CSs := (.cons (.ret (.tup (.cons (.idx (.var 3) (.lit (.int 0))) (.cons (.agg .tuple (.q (.sorted (.e (.var 5))))) (.cons (.agg .tuple (.e (.var 9))) .nil))))) .nil)
def b__law_land_4 : CSs := (.cons (.set (.nm 9) (.call 13 (.cons (.var 0) (.cons (.var 9) .nil)))) (.cons (.ite (.v (.cmp .eq (.var 1) (.lit (.int 3)))) (.cons (.set (.nm 9) (.slc (.bin .mul (.var 9) (.bin .add (.bin .fdiv (.lit (.int 400)) (.agg .len (.e (.var 9)))) (.lit (.int 1)))) .none (.some (.lit (.int 400))))) .nil) .nil) b__law_land_5))
def b__law_land_2 : CSs := (.cons (.for (.nm 12) (.rg (.lit (.int 0)) (.bin .add (.lit (.int 1)) (.call 11 (.cons (.var 0) (.cons (.lit (.int 5)) .nil))))) b__law_land_3) b__law_land_4)
def b__law_land : CSs := (.cons (.set (.nm 1) (.call 11 (.cons (.var 0) (.cons (.lit (.int 16)) .nil)))) (.cons (.set (.nm 2) (.ife (.v (.cmp .eq (.var 1) (.lit (.int 7)))) (.lit (.int 64)) (.bin .add (.lit (.int 1)) (.call 11 (.cons (.var 0) (.cons (.lit (.int 4)) .nil)))))) (.cons (.set (.nm 3) (.call 35 (.cons (.var 0) (.cons (.var 2) .nil)))) (.cons (.set (.nm 4) (.ife (.and (.v (.cmp .ge (.var 2) (.lit (.int 2)))) (.v (.cmp .eq (.call 11 (.cons (.var 0) (.cons (.lit (.int 4)) .nil))) (.lit (.int 1))))) (.idx (.var 3) (.bin .sub (.var 2) (.lit (.int 1)))) (.lit (.str "")))) (.cons (.set (.nm 5) (.alloc (.comp [ 14 ] (.nm 14) (.r (.e (.var 3))) (.tup (.cons (.var 14) (.cons (.ife (.v (.cmp .eq (.var 14) (.idx (.var 3) (.lit (.int 0))))) (.lit (.int 0)) (.call 11 (.cons (.var 0) (.cons (.lit (.int 4)) .nil)))) .nil)))))) (.cons (.set (.nm 6) (.alloc (.comp [ 12 ] (.nm 12) (.rg (.lit (.int 0)) (.lit (.int 2))) (.call 16 (.cons (.var 0) .nil))))) (.cons (.set (.nm 7) (.alloc (.comp [ 12 ] (.nm 12) (.rg (.lit (.int 0)) (.lit (.int 2))) (.call 16 (.cons (.var 0) .nil))))) (.cons (.set (.nm 8) (.cmp .eq (.call 11 (.cons (.var 0) (.cons (.lit (.int 6)) .nil))) (.lit (.int 2)))) (.cons (.set (.nm 9) (.alloc (.disp .nil))) (.cons (.for (.nm 10) (.r (.e (.var 5))) b__law_land_1) b__law_land_2))))))))))
def b__law_loops_1 : CSs := (.cons (.set (.nm 3) (.idx (.idx (.var 0) (.lit (.int 2))) (.var 2))) (.cons (.ite (.v (.cmp .eq (.alloc (.comp [ 4 ] (.nm 4) (.r (.e (.idx (.var 3) (.lit (.int 3))))) (.idx (.var 4) (.lit (.int 0))))) (.alloc (.disp (.cons (.idx (.var 3) (.lit (.int 0))) .nil))))) (.cons (.sub (.var 1) (.idx (.var 3) (.lit (.int 0))) (.alloc (.cat (.e (.dget (.var 1) (.idx (.var 3) (.lit (.int 0))) (.alloc (.disp .nil)))) (.q (.disp (.cons (.var 2) .nil)))))) .nil) .nil) .nil))
def b__law_loops_2 : CSs := (.cons (.ret (.var 1)) .nil)
def b__law_loops : CSs := (.cons (.set (.nm 1) .dnew) (.cons (.for (.nm 2) (.rg (.lit (.int 0)) (.agg .len (.e (.idx (.var 0) (.lit (.int 2)))))) b__law_loops_1) b__law_loops_2))
def b__law_sized_1 : CSs := (.cons (.set (.nm 11) (.call 11 (.cons (.var 0) (.cons (.agg .len (.e (.var 8))) .nil)))) (.cons (.ex (.ins (.var 8) (.var 11) (.tup (.cons (.call 12 (.cons (.var 0) (.cons (.idx (.var 4) (.idx (.var 9) (.var 11))) .nil))) (.cons (.lit (.int 1)) .nil))))) (.cons (.ex (.ins (.var 9) (.var 11) (.idx (.var 9) (.var 11)))) .nil)))
def b__law_sized_2 : CSs := (.cons (.ret (.call 25 (.cons (.var 8) .nil))) .nil)
def b__law_sized : CSs := (.cons (.set (.nm 4) (.call 37 (.cons (.var 1) .nil))) (.cons (.set (.nm 5) (.call 27 (.cons (.var 0) (.cons (.var 1) (.cons (.var 2) (.cons (.bin .add (.lit (.int 1)) (.call 11 (.cons (.var 0) (.cons (.var 3) .nil)))) .nil)))))) (.cons (.set (.tup [ 6 , 7 ]) (.call 23 (.cons (.var 5) .nil))) (.cons (.set (.nm 8) (.alloc (.comp [ 12 ] (.nm 12) (.rg (.lit (.int 0)) (.agg .len (.e (.var 6)))) (.tup (.cons (.idx (.idx (.var 6) (.var 12)) (.lit (.int 0))) (.cons (.agg .len (.e (.idx (.var 7) (.var 12)))) .nil)))))) (.cons (.set (.nm 9) (.call 33 (.cons (.var 1) (.cons (.var 2) (.cons (.var 5) .nil))))) (.cons (.for (.nm 10) (.rg (.lit (.int 0)) (.bin .sub (.var 3) (.agg .len (.e (.var 6))))) b__law_sized_1) b__law_sized_2))))))
def b__law_nodes_right_3 : CSs := (.cons (.ite (.and (.v (.cmp .gt (.var 3) (.lit (.int 0)))) (.not (.v (.cmp .lt (.idx (.idx (.var 0) (.bin .sub (.var 3) (.lit (.int 1)))) (.lit (.int 0))) (.idx (.idx (.var 0) (.var 3)) (.lit (.int 0))))))) (.cons (.ret (.lit (.bl false))) .nil) .nil) .nil)
def b__law_nodes_right_2 : CSs := (.cons (.ite (.not (.v (.agg .all (.q (.comp [ 4 ] (.nm 4) (.r (.e (.idx (.idx (.var 0) (.var 3)) (.lit (.int 0))))) (.call 15 (.cons (.var 4) .nil))))))) (.cons (.ret (.lit (.bl false))) .nil) .nil) b__law_nodes_right_3)
def b__law_nodes_right_4 : CSs := (.cons (.ret (.lit (.bl true))) .nil)
def b__law_nodes_right_1 : CSs := (.cons (.for (.nm 3) (.rg (.lit (.int 0)) (.agg .len (.e (.var 0)))) b__law_nodes_right_2) b__law_nodes_right_4)
def b__law_nodes_right : CSs := (.cons (.set (.nm 2) (.call 32 (.cons (.var 1) .nil))) (.cons (.ite (.or (.not (.v (.isi (.var 0) .tuple))) (.or (.v (.cmp .ne (.alloc (.list (.e (.var 0)))) (.var 2))) (.v (.cmp .ne (.agg .len (.e (.var 0))) (.call 24 (.cons (.var 1) .nil)))))) (.cons (.ret (.lit (.bl false))) .nil) .nil) b__law_nodes_right_1))
def b__law_names_right_1 : CSs := (.cons (.set (.nm 7) (.call 9 (.cons (.var 0) (.cons (.var 1) (.cons (.var 2) (.cons (.idx (.idx (.var 4) (.var 6)) (.lit (.int 0))) .nil)))))) (.cons (.ite (.or (.not (.v (.isi (.var 7) .str))) (.v (.cmp .ne (.var 7) (.idx (.var 5) (.var 6))))) (.cons (.ret (.lit (.bl false))) .nil) .nil) .nil))
def b__law_names_right_2 : CSs := (.cons (.ret (.lit (.bl true))) .nil)
def b__law_names_right : CSs := (.cons (.set (.nm 4) (.call 32 (.cons (.var 2) .nil))) (.cons (.set (.nm 5) (.call 33 (.cons (.var 0) (.cons (.var 1) (.cons (.var 2) .nil))))) (.cons (.for (.nm 6) (.r (.e (.var 3))) b__law_names_right_1) b__law_names_right_2)))
def b__law_outlined : CSs := (.cons (.ret (.alloc (.comp [ 1 , 2 ] (.tup [ 1 , 2 ]) (.r (.e (.var 0))) (.tup (.cons (.var 1) (.cons (.idx (.var 2) (.lit (.int 0))) (.cons (.agg .len (.e (.idx (.var 2) (.lit (.int 1))))) .nil))))))) .nil)
def b__law_put_right_3 : CSs := (.cons (.ret (.and (.cmp .eq (.call 8 (.cons (.var 12) (.cons (.var 6) (.cons (.var 7) .nil)))) (.var 3)) (.cmp .eq (.call 8 (.cons (.var 3) (.cons (.var 6) (.cons (.var 7) .nil)))) (.var 3)))) .nil)
def b__law_put_right_2 : CSs := (.cons (.ite (.or (.v (.cmp .ne (.call 7 (.cons (.var 12) (.cons (.var 6) .nil))) (.var 11))) (.v (.cmp .ne (.call 9 (.cons (.var 1) (.cons (.var 2) (.cons (.var 12) (.cons (.var 6) .nil))))) (.var 8)))) (.cons (.ret (.lit (.bl false))) .nil) .nil) b__law_put_right_3)
def b__law_put_right_1 : CSs := (.cons (.set (.nm 13) (.alloc (.comp [ 14 ] (.nm 14) (.r (.e (.call 32 (.cons (.var 11) .nil)))) (.tup (.cons (.bin .add (.var 6) (.idx (.var 14) (.lit (.int 0)))) (.cons (.idx (.var 14) (.lit (.int 1))) .nil)))))) (.cons (.ite (.v (.cmp .ne (.call 41 (.cons (.call 6 (.cons (.var 12) .nil)) .nil)) (.call 41 (.cons (.bin .add (.bin .add (.slc (.var 5) .none (.some (.var 4))) (.var 13)) (.slc (.var 5) (.some (.bin .add (.var 4) (.var 9))) .none)) .nil)))) (.cons (.ret (.lit (.bl false))) .nil) .nil) b__law_put_right_2))
def b__law_put_right : CSs := (.cons (.set (.nm 5) (.call 32 (.cons (.var 3) .nil))) (.cons (.set (.tup [ 6 , 7 ]) (.idx (.var 5) (.var 4))) (.cons (.set (.nm 8) (.idx (.call 33 (.cons (.var 1) (.cons (.var 2) (.cons (.var 3) .nil)))) (.var 4))) (.cons (.set (.nm 9) (.call 24 (.cons (.var 7) .nil))) (.cons (.set (.nm 10) (.bin .add (.bin .sub (.lit (.int 60)) (.agg .len (.e (.var 5)))) (.var 9))) (.cons (.set (.nm 11) (.call 38 (.cons (.var 0) (.cons (.var 1) (.cons (.var 8) (.cons (.bin .add (.lit (.int 1)) (.call 11 (.cons (.var 0) (.cons (.call 12 (.cons (.var 0) (.cons (.alloc (.disp (.cons (.var 10) (.cons (.fn2 .min (.var 10) (.lit (.int 4))) .nil)))) .nil))) .nil)))) .nil)))))) (.cons (.set (.nm 12) (.call 8 (.cons (.var 3) (.cons (.var 6) (.cons (.var 11) .nil))))) (.cons (.ite (.or (.v (.cmp .ne (.var 12) (.call 31 (.cons (.var 3) (.cons (.var 6) (.cons (.var 11) .nil)))))) (.not (.v (.call 28 (.cons (.var 1) (.cons (.var 2) (.cons (.var 12) (.cons (.lit (.int 60)) .nil)))))))) (.cons (.ret (.lit (.bl false))) .nil) .nil) b__law_put_right_1))))))))
def b__law_renamed_1 : CSs := (.cons (.sub (.var 1) (.idx (.idx (.idx (.var 0) (.lit (.int 1))) (.var 2)) (.lit (.int 0))) (.bin .add (.lit (.str "Q")) (.fn1 .str (.bin .sub (.agg .len (.e (.idx (.var 0) (.lit (.int 1))))) (.var 2))))) .nil)
def b__law_renamed_3 : CSs := (.cons (.ex (.app (.var 4) (.tup (.cons (.idx (.var 1) (.var 5)) (.cons (.var 6) (.cons (.var 7) (.cons (.agg .tuple (.q (.comp [ 10 ] (.nm 10) (.r (.e (.var 8))) (.tup (.cons (.idx (.var 1) (.idx (.var 10) (.lit (.int 0)))) (.cons (.idx (.var 10) (.lit (.int 1))) .nil)))))) .nil))))))) .nil)
def b__law_renamed_4 : CSs := (.cons (.ret (.alloc (.disp (.cons (.tup (.cons (.idx (.var 1) (.idx (.var 0) (.lit (.int 0)))) (.cons (.agg .tuple (.e (.var 3))) (.cons (.agg .tuple (.e (.var 4))) .nil)))) (.cons (.var 1) .nil))))) .nil)
def b__law_renamed_2 : CSs := (.cons (.set (.nm 3) (.alloc (.sorted (.q (.comp [ 5 , 9 ] (.tup [ 5 , 9 ]) (.r (.e (.idx (.var 0) (.lit (.int 1))))) (.tup (.cons (.idx (.var 1) (.var 5)) (.cons (.var 9) .nil)))))))) (.cons (.set (.nm 4) (.alloc (.disp .nil))) (.cons (.for (.tup [ 5 , 6 , 7 , 8 ]) (.r (.e (.idx (.var 0) (.lit (.int 2))))) b__law_renamed_3) b__law_renamed_4)))
def b__law_renamed : CSs := (.cons (.set (.nm 1) .dnew) (.cons (.for (.nm 2) (.rg (.lit (.int 0)) (.agg .len (.e (.idx (.var 0) (.lit (.int 1)))))) b__law_renamed_1) b__law_renamed_2))
def b__law_places : CSs := (.cons (.ret (.alloc (.disp (.cons (.lit (.int 0)) (.cons (.bin .sub (.var 1) (.lit (.int 1))) (.cons (.call 11 (.cons (.var 0) (.cons (.var 1) .nil))) (.cons (.call 11 (.cons (.var 0) (.cons (.var 1) .nil))) .nil))))))) .nil)
def b_law_2 : CSs := (.cons (.set (.nm 8) (.call 7 (.cons (.var 5) (.cons (.var 6) .nil)))) (.cons (.ite (.or (.v (.cmp .ne (.var 8) (.var 7))) (.not (.v (.isi (.var 8) .tuple)))) (.cons (.ret (.lit (.bl false))) .nil) .nil) .nil))
def b_law_6 : CSs := (.cons (.ite (.not (.v (.call 42 (.cons (.var 1) (.cons (.var 2) (.cons (.var 3) (.cons (.var 5) (.cons (.var 11) .nil)))))))) (.cons (.ret (.lit (.bl false))) .nil) .nil) .nil)
def b_law_9 : CSs := (.cons (.ret (.and (.call 39 (.cons (.call 6 (.cons (.var 5) .nil)) (.cons (.var 5) .nil))) (.cmp .eq (.call 7 (.cons (.var 5) (.cons (.tup .nil) .nil))) (.var 5)))) .nil)
def b_law_8 : CSs := (.cons (.set (.nm 15) (.call 30 (.cons (.var 2) (.cons (.var 5) .nil)))) (.cons (.set (.tup [ 16 , 17 ]) (.tup (.cons (.call 11 (.cons (.var 1) (.cons (.lit (.int 3)) .nil))) (.cons (.call 11 (.cons (.var 1) (.cons (.lit (.int 3)) .nil))) .nil)))) (.cons (.set (.nm 18) (.agg .tuple (.q (.comp [ 19 ] (.nm 19) (.rg (.lit (.int 0)) (.bin .add (.idx (.var 15) (.lit (.int 0))) (.agg .len (.e (.idx (.var 15) (.lit (.int 1))))))) (.bin .mod (.fn1 .int (.bin .add (.var 16) (.bin .mul (.var 19) (.var 17)))) (.lit (.int 3))))))) (.cons (.ite (.not (.v (.call 40 (.cons (.var 2) (.cons (.var 3) (.cons (.call 34 (.cons (.var 2) (.cons (.var 5) (.cons (.var 18) .nil)))) (.cons (.call 44 (.cons (.var 1) (.cons (.var 4) .nil))) .nil))))))) (.cons (.ret (.lit (.bl false))) .nil) .nil) b_law_9))))
def b_law_7 : CSs := (.cons (.ite (.v (.cmp .ge (.var 4) (.lit (.int 2)))) (.cons (.set (.nm 12) (.bin .add (.lit (.int 1)) (.call 11 (.cons (.var 1) (.cons (.bin .sub (.var 4) (.lit (.int 1))) .nil))))) (.cons (.set (.nm 13) (.call 31 (.cons (.var 5) (.cons (.idx (.idx (.call 32 (.cons (.var 5) .nil)) (.var 12)) (.lit (.int 0))) (.cons (.lit .non) .nil))))) (.cons (.set (.nm 14) (.bin .add (.bin .sub (.var 4) (.call 24 (.cons (.idx (.idx (.call 32 (.cons (.var 5) .nil)) (.var 12)) (.lit (.int 1))) .nil))) (.lit (.int 1)))) (.cons (.ite (.not (.v (.call 40 (.cons (.var 2) (.cons (.var 3) (.cons (.var 13) (.cons (.alloc (.cat (.q (.disp (.cons (.var 12) .nil))) (.e (.call 44 (.cons (.var 1) (.cons (.var 14) .nil)))))) .nil))))))) (.cons (.ret (.lit (.bl false))) .nil) .nil) .nil)))) .nil) b_law_8)
def b_law_5 : CSs := (.cons (.for (.nm 11) (.r (.e (.slc (.call 44 (.cons (.var 1) (.cons (.var 4) .nil))) (.some (.call 11 (.cons (.var 1) (.cons (.lit (.int 3)) .nil)))) .none))) b_law_6) b_law_7)
def b_law_4 : CSs := (.cons (.set (.tup [ 9 , 10 ]) (.call 43 (.cons (.var 2) .nil))) (.cons (.ite (.not (.v (.call 40 (.cons (.var 9) (.cons (.idx (.var 10) (.var 3)) (.cons (.var 5) (.cons (.call 44 (.cons (.var 1) (.cons (.var 4) .nil))) .nil))))))) (.cons (.ret (.lit (.bl false))) .nil) .nil) b_law_5))
def b_law_3 : CSs := (.cons (.ite (.not (.v (.call 40 (.cons (.var 2) (.cons (.var 3) (.cons (.var 5) (.cons (.alloc (.listRg (.lit (.int 0)) (.var 4))) .nil))))))) (.cons (.ret (.lit (.bl false))) .nil) .nil) b_law_4)
def b_law_1 : CSs := (.cons (.for (.tup [ 6 , 7 ]) (.r (.e (.call 32 (.cons (.var 5) .nil)))) b_law_2) b_law_3)
def b_law : CSs := (.cons (.set (.nm 1) (.call 10 (.cons (.var 0) .nil))) (.cons (.set (.nm 2) (.call 36 (.cons (.var 1) .nil))) (.cons (.set (.nm 3) (.call 12 (.cons (.var 1) (.cons (.alloc (.sorted (.e (.call 37 (.cons (.var 2) .nil))))) .nil)))) (.cons (.set (.nm 4) (.call 12 (.cons (.var 1) (.cons (.alloc (.disp (.cons (.lit (.int 1)) (.cons (.lit (.int 2)) (.cons (.lit (.int 3)) (.cons (.bin .add (.lit (.int 1)) (.call 11 (.cons (.var 1) (.cons (.lit (.int 12)) .nil)))) (.cons (.bin .add (.lit (.int 1)) (.call 11 (.cons (.var 1) (.cons (.lit (.int 12)) .nil)))) (.cons (.bin .sub (.lit (.int 60)) (.call 11 (.cons (.var 1) (.cons (.lit (.int 40)) .nil)))) .nil)))))))) .nil)))) (.cons (.set (.nm 5) (.call 38 (.cons (.var 1) (.cons (.var 2) (.cons (.var 3) (.cons (.var 4) .nil)))))) (.cons (.ite (.not (.v (.call 39 (.cons (.call 6 (.cons (.var 5) .nil)) (.cons (.var 5) .nil))))) (.cons (.ret (.lit (.bl false))) .nil) .nil) b_law_1))))))
def T : List Fn := (([⟨"is_number", ["thing"], 1, b_is_number⟩,
  ⟨"is_between", ["thing", "low", "high"], 3, b_is_between⟩,
  ⟨"rule_at", ["book", "number"], 2, b_rule_at⟩,
  ⟨"slots_of", ["book", "number"], 2, b_slots_of⟩,
  ⟨"flat", ["build", "nodes", "below", "waiting", "node", "above", "place", "parts", "k"], 1, b_flat⟩,
  ⟨"paths_of", ["below", "paths", "place", "k"], 1, b_paths_of⟩,
  ⟨"nodes_of", ["build", "nodes", "below", "paths", "place"], 1, b_nodes_of⟩,
  ⟨"part_at", ["build", "path", "k"], 2, b_part_at⟩,
  ⟨"put_at", ["build", "path", "other", "way", "k", "found", "depth", "parts"], 3, b_put_at⟩,
  ⟨"name_at", ["book", "name", "build", "path", "k"], 4, b_name_at⟩,
  ⟨"_law_begin", ["script", "cell"], 1, b__law_begin⟩,
  ⟨"_law_draw", ["d", "many", "found", "size", "cell"], 2, b__law_draw⟩,
  ⟨"_law_pick", ["d", "row"], 2, b__law_pick⟩,
  ⟨"_law_shuffled", ["d", "row", "left", "found", "k"], 2, b__law_shuffled⟩,
  ⟨"_law_some", ["d", "row", "many"], 3, b__law_some⟩,
  ⟨"_law_is_int", ["thing"], 1, b__law_is_int⟩,
  ⟨"_law_letter", ["d"], 1, b__law_letter⟩,
  ⟨"_law_ties", ["d", "spots", "many", "strands", "found", "k", "pair"], 4, b__law_ties⟩,
  ⟨"_law_marks", ["d", "many", "marks", "k"], 3, b__law_marks⟩,
  ⟨"_law_rule", ["d", "pair", "slots", "inner", "ties", "marks", "strands", "own", "spots", "told", "slot"], 7, b__law_rule⟩,
  ⟨"_law_arity", ["book", "name", "known", "arity"], 2, b__law_arity⟩,
  ⟨"_law_rules", ["book", "name", "k"], 2, b__law_rules⟩,
  ⟨"_law_parts", ["node"], 1, b__law_parts⟩,
  ⟨"_law_flat", ["thing", "nodes", "below", "waiting", "turn", "node", "above", "part"], 1, b__law_flat⟩,
  ⟨"_law_steps", ["build"], 1, b__law_steps⟩,
  ⟨"_law_joined", ["rows", "built", "k", "rule", "many", "parts", "j"], 1, b__law_joined⟩,
  ⟨"_law_least", ["book", "least", "turn", "rule", "steps", "slot"], 1, b__law_least⟩,
  ⟨"_law_build", ["d", "book", "name", "most", "least", "spare", "rows", "waiting", "turn", "due", "open_rules", "number", "slots", "more", "k", "slot"], 4, b__law_build⟩,
  ⟨"_law_is_build", ["book", "name", "thing", "most", "waiting", "turn", "due", "node", "k"], 4, b__law_is_build⟩,
  ⟨"_law_laid", ["book", "build", "nodes", "below", "arity", "joints", "marks", "ties", "spots", "after", "place", "rule", "own", "one", "other", "strand", "k", "node", "at"], 2, b__law_laid⟩] : List Fn) ++ ([⟨"_law_grow", ["book", "build"], 2, b__law_grow⟩,
  ⟨"_law_put", ["build", "path", "other", "way", "k", "found", "depth", "parts"], 3, b__law_put⟩,
  ⟨"_law_paths", ["build", "nodes", "below", "paths", "place", "k", "node"], 1, b__law_paths⟩,
  ⟨"_law_names_along", ["book", "name", "build", "nodes", "below", "names", "place", "k", "node"], 3, b__law_names_along⟩,
  ⟨"_law_dress", ["book", "build", "tags", "nodes", "below", "spots", "found", "k", "place", "own", "node", "spot", "part"], 3, b__law_dress⟩,
  ⟨"_law_titles", ["d", "many", "capitals", "signs", "size", "stem", "way", "at", "start", "step", "found", "k"], 2, b__law_titles⟩,
  ⟨"_law_land", ["d", "scale", "many", "titles", "bare", "pairs", "marks", "strands", "is_large", "rules", "pair", "inner", "k", "used", "title", "j"], 1, b__law_land⟩,
  ⟨"_law_loops", ["book", "found", "number", "rule", "slot"], 1, b__law_loops⟩,
  ⟨"_law_sized", ["d", "book", "name", "size", "loops", "build", "nodes", "below", "rows", "names", "turn", "at", "k"], 4, b__law_sized⟩,
  ⟨"_law_nodes_right", ["told", "build", "pairs", "k", "step"], 2, b__law_nodes_right⟩,
  ⟨"_law_names_right", ["book", "name", "thing", "places", "pairs", "names", "place", "told"], 4, b__law_names_right⟩,
  ⟨"_law_outlined", ["pairs", "path", "node"], 1, b__law_outlined⟩,
  ⟨"_law_put_right", ["d", "book", "name", "build", "place", "pairs", "path", "old", "due", "size", "room", "other", "told", "inner", "pair"], 5, b__law_put_right⟩,
  ⟨"_law_renamed", ["book", "fresh", "k", "pairs", "rules", "name", "marks", "ties", "slots", "arity", "slot"], 1, b__law_renamed⟩,
  ⟨"_law_places", ["d", "many"], 2, b__law_places⟩,
  ⟨"law", ["script", "d", "book", "name", "size", "build", "path", "node", "told", "twin", "fresh", "place", "at", "holed", "left", "web", "start", "step", "tags", "k"], 1, b_law⟩] : List Fn))
abbrev n_is_number : Nat := 0
abbrev n_is_between : Nat := 1
abbrev n_rule_at : Nat := 2
abbrev n_slots_of : Nat := 3
abbrev n_flat : Nat := 4
abbrev n_paths_of : Nat := 5
abbrev n_nodes_of : Nat := 6
abbrev n_part_at : Nat := 7
abbrev n_put_at : Nat := 8
abbrev n_name_at : Nat := 9
abbrev n__law_begin : Nat := 10
abbrev n__law_draw : Nat := 11
abbrev n__law_pick : Nat := 12
abbrev n__law_shuffled : Nat := 13
abbrev n__law_some : Nat := 14
abbrev n__law_is_int : Nat := 15
abbrev n__law_letter : Nat := 16
abbrev n__law_ties : Nat := 17
abbrev n__law_marks : Nat := 18
abbrev n__law_rule : Nat := 19
abbrev n__law_arity : Nat := 20
abbrev n__law_rules : Nat := 21
abbrev n__law_parts : Nat := 22
abbrev n__law_flat : Nat := 23
abbrev n__law_steps : Nat := 24
abbrev n__law_joined : Nat := 25
abbrev n__law_least : Nat := 26
abbrev n__law_build : Nat := 27
abbrev n__law_is_build : Nat := 28
abbrev n__law_laid : Nat := 29
abbrev n__law_grow : Nat := 30
abbrev n__law_put : Nat := 31
abbrev n__law_paths : Nat := 32
abbrev n__law_names_along : Nat := 33
abbrev n__law_dress : Nat := 34
abbrev n__law_titles : Nat := 35
abbrev n__law_land : Nat := 36
abbrev n__law_loops : Nat := 37
abbrev n__law_sized : Nat := 38
abbrev n__law_nodes_right : Nat := 39
abbrev n__law_names_right : Nat := 40
abbrev n__law_outlined : Nat := 41
abbrev n__law_put_right : Nat := 42
abbrev n__law_renamed : Nat := 43
abbrev n__law_places : Nat := 44
abbrev n_law : Nat := 45
/-! ### the head -/
@[reducible] def dd (x : Str) (i : Nat) : He.DefD := ⟨(x, none), x, x, defArgs (top i), defBody (top i), defScope (top i), [], []⟩
def fn : List He.DefD := (([dd "is_number" 4, dd "is_between" 5, dd "rule_at" 7, dd "slots_of" 8, dd "flat" 10, dd "paths_of" 11, dd "nodes_of" 12, dd "part_at" 13, dd "put_at" 14, dd "name_at" 15, dd "_law_begin" 17, dd "_law_draw" 18, dd "_law_pick" 19, dd "_law_shuffled" 20, dd "_law_some" 21, dd "_law_is_int" 22, dd "_law_letter" 23, dd "_law_ties" 24, dd "_law_marks" 25, dd "_law_rule" 26, dd "_law_arity" 27, dd "_law_rules" 28, dd "_law_parts" 29, dd "_law_flat" 30, dd "_law_steps" 31, dd "_law_joined" 32, dd "_law_least" 33, dd "_law_build" 34, dd "_law_is_build" 35, dd "_law_laid" 36] : List He.DefD) ++ ([dd "_law_grow" 37, dd "_law_put" 38, dd "_law_paths" 39, dd "_law_names_along" 40, dd "_law_dress" 41, dd "_law_titles" 42, dd "_law_land" 43, dd "_law_loops" 44, dd "_law_sized" 45, dd "_law_nodes_right" 46, dd "_law_names_right" 47, dd "_law_outlined" 48, dd "_law_put_right" 49, dd "_law_renamed" 50, dd "_law_places" 51, dd "law" 52] : List He.DefD))
def fa : List He.Fa := (([.glo "is_number", .glo "is_between", .glo "rule_at", .glo "slots_of", .glo "flat", .glo "paths_of", .glo "nodes_of", .glo "part_at", .glo "put_at", .glo "name_at", .glo "_law_begin", .glo "_law_draw", .glo "_law_pick", .glo "_law_shuffled", .glo "_law_some", .glo "_law_is_int", .glo "_law_letter", .glo "_law_ties", .glo "_law_marks", .glo "_law_rule", .glo "_law_arity", .glo "_law_rules", .glo "_law_parts", .glo "_law_flat", .glo "_law_steps", .glo "_law_joined", .glo "_law_least", .glo "_law_build", .glo "_law_is_build", .glo "_law_laid"] : List He.Fa) ++ ([.glo "_law_grow", .glo "_law_put", .glo "_law_paths", .glo "_law_names_along", .glo "_law_dress", .glo "_law_titles", .glo "_law_land", .glo "_law_loops", .glo "_law_sized", .glo "_law_nodes_right", .glo "_law_names_right", .glo "_law_outlined", .glo "_law_put_right", .glo "_law_renamed", .glo "_law_places", .glo "law", .free "len", .free "range", .free "tuple", .free "int", .free "sorted", .free "isinstance", .free "list", .free "sum", .free "min", .free "max", .free "all", .free "str", .free "abs", .free "bool"] : List He.Fa))
abbrev R : PySem.W.OpenRow := PySem.W.OpenLaw.row PySem.Challenge.rw_everygrown_k13_paths_and_parts
abbrev hk : PySem.W.Hook := PQ.hookP 4 fa fn Gs
def ob (s : PySem.W.SharedT) : He.AlD × Bool := PQ.obP 4 fa fn Gs (HandSHeadRun.getT s)
theorem ob_eq (s : PySem.W.SharedT) : ob s = hk.obs s.abs := PQ.obP_eq (HandSHeadRun.getT_eq s)
def loose : List Str := ((["is_number", "is_between", "rule_at", "slots_of", "flat", "paths_of", "nodes_of", "part_at", "put_at", "name_at", "_law_begin", "_law_draw", "_law_pick", "_law_shuffled", "_law_some", "_law_is_int", "_law_letter", "_law_ties", "_law_marks", "_law_rule", "_law_arity", "_law_rules", "_law_parts", "_law_flat", "_law_steps", "_law_joined", "_law_least", "_law_build", "_law_is_build", "_law_laid"] : List Str) ++ (["_law_grow", "_law_put", "_law_paths", "_law_names_along", "_law_dress", "_law_titles", "_law_land", "_law_loops", "_law_sized", "_law_nodes_right", "_law_names_right", "_law_outlined", "_law_put_right", "_law_renamed", "_law_places", "GrownError", "NoRule"] : List Str))
theorem run (w : World) : HandSHeadRun.RunEq R (PySem.W.view R.prog [52]) hk ob 12000 loose w := by
  intro os
  kernel_rfl
/-! ### each def is what the language says -/
theorem c_is_number : (cSs 60 60 ⟨names, B, ["thing"], defScope (top 4), Gs⟩ (defBody (top 4))).map (·.val) = some b_is_number := by kernel_rfl
theorem d_is_number {K : Fg} {h : Heap} {mg : Str → Option Value} (X : K.In h) (G : h.Ns mainGlobals mg) (c : He.SaysD fa fn K) : DefOk K mg names B Gs ⟨"is_number", ["thing"], 1, b_is_number⟩ :=
  def_ok (names := names) (B := B) (Gs := Gs) (N := ["thing"]) (ps := ["thing"]) X G c 0 (st := top 4) rfl 0 rfl c_is_number ⟨rfl, rfl, rfl, by decide +kernel, rfl, by decide +kernel, by decide +kernel⟩ rfl fun _ _ _ _ _ _ us hl => match us, hl with | [_], _ => rfl
theorem c_is_between : (cSs 60 60 ⟨names, B, ["thing", "low", "high"], defScope (top 5), Gs⟩ (defBody (top 5))).map (·.val) = some b_is_between := by kernel_rfl
theorem d_is_between {K : Fg} {h : Heap} {mg : Str → Option Value} (X : K.In h) (G : h.Ns mainGlobals mg) (c : He.SaysD fa fn K) : DefOk K mg names B Gs ⟨"is_between", ["thing", "low", "high"], 3, b_is_between⟩ :=
  def_ok (names := names) (B := B) (Gs := Gs) (N := ["thing", "low", "high"]) (ps := ["thing", "low", "high"]) X G c 1 (st := top 5) rfl 1 rfl c_is_between ⟨rfl, rfl, rfl, by decide +kernel, rfl, by decide +kernel, by decide +kernel⟩ rfl fun _ _ _ _ _ _ us hl => match us, hl with | [_, _, _], _ => rfl
theorem c_rule_at : (cSs 60 60 ⟨names, B, ["book", "number"], defScope (top 7), Gs⟩ (defBody (top 7))).map (·.val) = some b_rule_at := by kernel_rfl
theorem d_rule_at {K : Fg} {h : Heap} {mg : Str → Option Value} (X : K.In h) (G : h.Ns mainGlobals mg) (c : He.SaysD fa fn K) : DefOk K mg names B Gs ⟨"rule_at", ["book", "number"], 2, b_rule_at⟩ :=
  def_ok (names := names) (B := B) (Gs := Gs) (N := ["book", "number"]) (ps := ["book", "number"]) X G c 2 (st := top 7) rfl 2 rfl c_rule_at ⟨rfl, rfl, rfl, by decide +kernel, rfl, by decide +kernel, by decide +kernel⟩ rfl fun _ _ _ _ _ _ us hl => match us, hl with | [_, _], _ => rfl
theorem c_slots_of : (cSs 60 60 ⟨names, B, ["book", "number"], defScope (top 8), Gs⟩ (defBody (top 8))).map (·.val) = some b_slots_of := by kernel_rfl
theorem d_slots_of {K : Fg} {h : Heap} {mg : Str → Option Value} (X : K.In h) (G : h.Ns mainGlobals mg) (c : He.SaysD fa fn K) : DefOk K mg names B Gs ⟨"slots_of", ["book", "number"], 2, b_slots_of⟩ :=
  def_ok (names := names) (B := B) (Gs := Gs) (N := ["book", "number"]) (ps := ["book", "number"]) X G c 3 (st := top 8) rfl 3 rfl c_slots_of ⟨rfl, rfl, rfl, by decide +kernel, rfl, by decide +kernel, by decide +kernel⟩ rfl fun _ _ _ _ _ _ us hl => match us, hl with | [_, _], _ => rfl
theorem c_flat : (cSs 60 60 ⟨names, B, ["build", "nodes", "below", "waiting", "node", "above", "place", "parts", "k"], defScope (top 10), Gs⟩ (defBody (top 10))).map (·.val) = some b_flat := by kernel_rfl
theorem d_flat {K : Fg} {h : Heap} {mg : Str → Option Value} (X : K.In h) (G : h.Ns mainGlobals mg) (c : He.SaysD fa fn K) : DefOk K mg names B Gs ⟨"flat", ["build", "nodes", "below", "waiting", "node", "above", "place", "parts", "k"], 1, b_flat⟩ :=
  def_ok (names := names) (B := B) (Gs := Gs) (N := ["build", "nodes", "below", "waiting", "node", "above", "place", "parts", "k"]) (ps := ["build"]) X G c 4 (st := top 10) rfl 4 rfl c_flat ⟨rfl, rfl, rfl, by decide +kernel, rfl, by decide +kernel, by decide +kernel⟩ rfl fun _ _ _ _ _ _ us hl => match us, hl with | [_], _ => rfl
theorem c_paths_of : (cSs 60 60 ⟨names, B, ["below", "paths", "place", "k"], defScope (top 11), Gs⟩ (defBody (top 11))).map (·.val) = some b_paths_of := by kernel_rfl
theorem d_paths_of {K : Fg} {h : Heap} {mg : Str → Option Value} (X : K.In h) (G : h.Ns mainGlobals mg) (c : He.SaysD fa fn K) : DefOk K mg names B Gs ⟨"paths_of", ["below", "paths", "place", "k"], 1, b_paths_of⟩ :=
  def_ok (names := names) (B := B) (Gs := Gs) (N := ["below", "paths", "place", "k"]) (ps := ["below"]) X G c 5 (st := top 11) rfl 5 rfl c_paths_of ⟨rfl, rfl, rfl, by decide +kernel, rfl, by decide +kernel, by decide +kernel⟩ rfl fun _ _ _ _ _ _ us hl => match us, hl with | [_], _ => rfl
theorem c_nodes_of : (cSs 60 60 ⟨names, B, ["build", "nodes", "below", "paths", "place"], defScope (top 12), Gs⟩ (defBody (top 12))).map (·.val) = some b_nodes_of := by kernel_rfl
theorem d_nodes_of {K : Fg} {h : Heap} {mg : Str → Option Value} (X : K.In h) (G : h.Ns mainGlobals mg) (c : He.SaysD fa fn K) : DefOk K mg names B Gs ⟨"nodes_of", ["build", "nodes", "below", "paths", "place"], 1, b_nodes_of⟩ :=
  def_ok (names := names) (B := B) (Gs := Gs) (N := ["build", "nodes", "below", "paths", "place"]) (ps := ["build"]) X G c 6 (st := top 12) rfl 6 rfl c_nodes_of ⟨rfl, rfl, rfl, by decide +kernel, rfl, by decide +kernel, by decide +kernel⟩ rfl fun _ _ _ _ _ _ us hl => match us, hl with | [_], _ => rfl
theorem c_part_at : (cSs 60 60 ⟨names, B, ["build", "path", "k"], defScope (top 13), Gs⟩ (defBody (top 13))).map (·.val) = some b_part_at := by kernel_rfl
theorem d_part_at {K : Fg} {h : Heap} {mg : Str → Option Value} (X : K.In h) (G : h.Ns mainGlobals mg) (c : He.SaysD fa fn K) : DefOk K mg names B Gs ⟨"part_at", ["build", "path", "k"], 2, b_part_at⟩ :=
  def_ok (names := names) (B := B) (Gs := Gs) (N := ["build", "path", "k"]) (ps := ["build", "path"]) X G c 7 (st := top 13) rfl 7 rfl c_part_at ⟨rfl, rfl, rfl, by decide +kernel, rfl, by decide +kernel, by decide +kernel⟩ rfl fun _ _ _ _ _ _ us hl => match us, hl with | [_, _], _ => rfl
theorem c_put_at : (cSs 60 60 ⟨names, B, ["build", "path", "other", "way", "k", "found", "depth", "parts"], defScope (top 14), Gs⟩ (defBody (top 14))).map (·.val) = some b_put_at := by kernel_rfl
theorem d_put_at {K : Fg} {h : Heap} {mg : Str → Option Value} (X : K.In h) (G : h.Ns mainGlobals mg) (c : He.SaysD fa fn K) : DefOk K mg names B Gs ⟨"put_at", ["build", "path", "other", "way", "k", "found", "depth", "parts"], 3, b_put_at⟩ :=
  def_ok (names := names) (B := B) (Gs := Gs) (N := ["build", "path", "other", "way", "k", "found", "depth", "parts"]) (ps := ["build", "path", "other"]) X G c 8 (st := top 14) rfl 8 rfl c_put_at ⟨rfl, rfl, rfl, by decide +kernel, rfl, by decide +kernel, by decide +kernel⟩ rfl fun _ _ _ _ _ _ us hl => match us, hl with | [_, _, _], _ => rfl
theorem c_name_at : (cSs 60 60 ⟨names, B, ["book", "name", "build", "path", "k"], defScope (top 15), Gs⟩ (defBody (top 15))).map (·.val) = some b_name_at := by kernel_rfl
theorem d_name_at {K : Fg} {h : Heap} {mg : Str → Option Value} (X : K.In h) (G : h.Ns mainGlobals mg) (c : He.SaysD fa fn K) : DefOk K mg names B Gs ⟨"name_at", ["book", "name", "build", "path", "k"], 4, b_name_at⟩ :=
  def_ok (names := names) (B := B) (Gs := Gs) (N := ["book", "name", "build", "path", "k"]) (ps := ["book", "name", "build", "path"]) X G c 9 (st := top 15) rfl 9 rfl c_name_at ⟨rfl, rfl, rfl, by decide +kernel, rfl, by decide +kernel, by decide +kernel⟩ rfl fun _ _ _ _ _ _ us hl => match us, hl with | [_, _, _, _], _ => rfl
theorem c__law_begin : (cSs 60 60 ⟨names, B, ["script", "cell"], defScope (top 17), Gs⟩ (defBody (top 17))).map (·.val) = some b__law_begin := by kernel_rfl
theorem d__law_begin {K : Fg} {h : Heap} {mg : Str → Option Value} (X : K.In h) (G : h.Ns mainGlobals mg) (c : He.SaysD fa fn K) : DefOk K mg names B Gs ⟨"_law_begin", ["script", "cell"], 1, b__law_begin⟩ :=
  def_ok (names := names) (B := B) (Gs := Gs) (N := ["script", "cell"]) (ps := ["script"]) X G c 10 (st := top 17) rfl 10 rfl c__law_begin ⟨rfl, rfl, rfl, by decide +kernel, rfl, by decide +kernel, by decide +kernel⟩ rfl fun _ _ _ _ _ _ us hl => match us, hl with | [_], _ => rfl
theorem c__law_draw : (cSs 60 60 ⟨names, B, ["d", "many", "found", "size", "cell"], defScope (top 18), Gs⟩ (defBody (top 18))).map (·.val) = some b__law_draw := by kernel_rfl
theorem d__law_draw {K : Fg} {h : Heap} {mg : Str → Option Value} (X : K.In h) (G : h.Ns mainGlobals mg) (c : He.SaysD fa fn K) : DefOk K mg names B Gs ⟨"_law_draw", ["d", "many", "found", "size", "cell"], 2, b__law_draw⟩ :=
  def_ok (names := names) (B := B) (Gs := Gs) (N := ["d", "many", "found", "size", "cell"]) (ps := ["d", "many"]) X G c 11 (st := top 18) rfl 11 rfl c__law_draw ⟨rfl, rfl, rfl, by decide +kernel, rfl, by decide +kernel, by decide +kernel⟩ rfl fun _ _ _ _ _ _ us hl => match us, hl with | [_, _], _ => rfl
theorem c__law_pick : (cSs 60 60 ⟨names, B, ["d", "row"], defScope (top 19), Gs⟩ (defBody (top 19))).map (·.val) = some b__law_pick := by kernel_rfl
theorem d__law_pick {K : Fg} {h : Heap} {mg : Str → Option Value} (X : K.In h) (G : h.Ns mainGlobals mg) (c : He.SaysD fa fn K) : DefOk K mg names B Gs ⟨"_law_pick", ["d", "row"], 2, b__law_pick⟩ :=
  def_ok (names := names) (B := B) (Gs := Gs) (N := ["d", "row"]) (ps := ["d", "row"]) X G c 12 (st := top 19) rfl 12 rfl c__law_pick ⟨rfl, rfl, rfl, by decide +kernel, rfl, by decide +kernel, by decide +kernel⟩ rfl fun _ _ _ _ _ _ us hl => match us, hl with | [_, _], _ => rfl
theorem c__law_shuffled : (cSs 60 60 ⟨names, B, ["d", "row", "left", "found", "k"], defScope (top 20), Gs⟩ (defBody (top 20))).map (·.val) = some b__law_shuffled := by kernel_rfl
theorem d__law_shuffled {K : Fg} {h : Heap} {mg : Str → Option Value} (X : K.In h) (G : h.Ns mainGlobals mg) (c : He.SaysD fa fn K) : DefOk K mg names B Gs ⟨"_law_shuffled", ["d", "row", "left", "found", "k"], 2, b__law_shuffled⟩ :=
  def_ok (names := names) (B := B) (Gs := Gs) (N := ["d", "row", "left", "found", "k"]) (ps := ["d", "row"]) X G c 13 (st := top 20) rfl 13 rfl c__law_shuffled ⟨rfl, rfl, rfl, by decide +kernel, rfl, by decide +kernel, by decide +kernel⟩ rfl fun _ _ _ _ _ _ us hl => match us, hl with | [_, _], _ => rfl
theorem c__law_some : (cSs 60 60 ⟨names, B, ["d", "row", "many"], defScope (top 21), Gs⟩ (defBody (top 21))).map (·.val) = some b__law_some := by kernel_rfl
theorem d__law_some {K : Fg} {h : Heap} {mg : Str → Option Value} (X : K.In h) (G : h.Ns mainGlobals mg) (c : He.SaysD fa fn K) : DefOk K mg names B Gs ⟨"_law_some", ["d", "row", "many"], 3, b__law_some⟩ :=
  def_ok (names := names) (B := B) (Gs := Gs) (N := ["d", "row", "many"]) (ps := ["d", "row", "many"]) X G c 14 (st := top 21) rfl 14 rfl c__law_some ⟨rfl, rfl, rfl, by decide +kernel, rfl, by decide +kernel, by decide +kernel⟩ rfl fun _ _ _ _ _ _ us hl => match us, hl with | [_, _, _], _ => rfl
theorem c__law_is_int : (cSs 60 60 ⟨names, B, ["thing"], defScope (top 22), Gs⟩ (defBody (top 22))).map (·.val) = some b__law_is_int := by kernel_rfl
theorem d__law_is_int {K : Fg} {h : Heap} {mg : Str → Option Value} (X : K.In h) (G : h.Ns mainGlobals mg) (c : He.SaysD fa fn K) : DefOk K mg names B Gs ⟨"_law_is_int", ["thing"], 1, b__law_is_int⟩ :=
  def_ok (names := names) (B := B) (Gs := Gs) (N := ["thing"]) (ps := ["thing"]) X G c 15 (st := top 22) rfl 15 rfl c__law_is_int ⟨rfl, rfl, rfl, by decide +kernel, rfl, by decide +kernel, by decide +kernel⟩ rfl fun _ _ _ _ _ _ us hl => match us, hl with | [_], _ => rfl
theorem c__law_letter : (cSs 60 60 ⟨names, B, ["d"], defScope (top 23), Gs⟩ (defBody (top 23))).map (·.val) = some b__law_letter := by kernel_rfl
theorem d__law_letter {K : Fg} {h : Heap} {mg : Str → Option Value} (X : K.In h) (G : h.Ns mainGlobals mg) (c : He.SaysD fa fn K) : DefOk K mg names B Gs ⟨"_law_letter", ["d"], 1, b__law_letter⟩ :=
  def_ok (names := names) (B := B) (Gs := Gs) (N := ["d"]) (ps := ["d"]) X G c 16 (st := top 23) rfl 16 rfl c__law_letter ⟨rfl, rfl, rfl, by decide +kernel, rfl, by decide +kernel, by decide +kernel⟩ rfl fun _ _ _ _ _ _ us hl => match us, hl with | [_], _ => rfl
theorem c__law_ties : (cSs 60 60 ⟨names, B, ["d", "spots", "many", "strands", "found", "k", "pair"], defScope (top 24), Gs⟩ (defBody (top 24))).map (·.val) = some b__law_ties := by kernel_rfl
theorem d__law_ties {K : Fg} {h : Heap} {mg : Str → Option Value} (X : K.In h) (G : h.Ns mainGlobals mg) (c : He.SaysD fa fn K) : DefOk K mg names B Gs ⟨"_law_ties", ["d", "spots", "many", "strands", "found", "k", "pair"], 4, b__law_ties⟩ :=
  def_ok (names := names) (B := B) (Gs := Gs) (N := ["d", "spots", "many", "strands", "found", "k", "pair"]) (ps := ["d", "spots", "many", "strands"]) X G c 17 (st := top 24) rfl 17 rfl c__law_ties ⟨rfl, rfl, rfl, by decide +kernel, rfl, by decide +kernel, by decide +kernel⟩ rfl fun _ _ _ _ _ _ us hl => match us, hl with | [_, _, _, _], _ => rfl
theorem c__law_marks : (cSs 60 60 ⟨names, B, ["d", "many", "marks", "k"], defScope (top 25), Gs⟩ (defBody (top 25))).map (·.val) = some b__law_marks := by kernel_rfl
theorem d__law_marks {K : Fg} {h : Heap} {mg : Str → Option Value} (X : K.In h) (G : h.Ns mainGlobals mg) (c : He.SaysD fa fn K) : DefOk K mg names B Gs ⟨"_law_marks", ["d", "many", "marks", "k"], 3, b__law_marks⟩ :=
  def_ok (names := names) (B := B) (Gs := Gs) (N := ["d", "many", "marks", "k"]) (ps := ["d", "many", "marks"]) X G c 18 (st := top 25) rfl 18 rfl c__law_marks ⟨rfl, rfl, rfl, by decide +kernel, rfl, by decide +kernel, by decide +kernel⟩ rfl fun _ _ _ _ _ _ us hl => match us, hl with | [_, _, _], _ => rfl
theorem c__law_rule : (cSs 60 60 ⟨names, B, ["d", "pair", "slots", "inner", "ties", "marks", "strands", "own", "spots", "told", "slot"], defScope (top 26), Gs⟩ (defBody (top 26))).map (·.val) = some b__law_rule := by kernel_rfl
theorem d__law_rule {K : Fg} {h : Heap} {mg : Str → Option Value} (X : K.In h) (G : h.Ns mainGlobals mg) (c : He.SaysD fa fn K) : DefOk K mg names B Gs ⟨"_law_rule", ["d", "pair", "slots", "inner", "ties", "marks", "strands", "own", "spots", "told", "slot"], 7, b__law_rule⟩ :=
  def_ok (names := names) (B := B) (Gs := Gs) (N := ["d", "pair", "slots", "inner", "ties", "marks", "strands", "own", "spots", "told", "slot"]) (ps := ["d", "pair", "slots", "inner", "ties", "marks", "strands"]) X G c 19 (st := top 26) rfl 19 rfl c__law_rule ⟨rfl, rfl, rfl, by decide +kernel, rfl, by decide +kernel, by decide +kernel⟩ rfl fun _ _ _ _ _ _ us hl => match us, hl with | [_, _, _, _, _, _, _], _ => rfl
theorem c__law_arity : (cSs 60 60 ⟨names, B, ["book", "name", "known", "arity"], defScope (top 27), Gs⟩ (defBody (top 27))).map (·.val) = some b__law_arity := by kernel_rfl
theorem d__law_arity {K : Fg} {h : Heap} {mg : Str → Option Value} (X : K.In h) (G : h.Ns mainGlobals mg) (c : He.SaysD fa fn K) : DefOk K mg names B Gs ⟨"_law_arity", ["book", "name", "known", "arity"], 2, b__law_arity⟩ :=
  def_ok (names := names) (B := B) (Gs := Gs) (N := ["book", "name", "known", "arity"]) (ps := ["book", "name"]) X G c 20 (st := top 27) rfl 20 rfl c__law_arity ⟨rfl, rfl, rfl, by decide +kernel, rfl, by decide +kernel, by decide +kernel⟩ rfl fun _ _ _ _ _ _ us hl => match us, hl with | [_, _], _ => rfl
theorem c__law_rules : (cSs 60 60 ⟨names, B, ["book", "name", "k"], defScope (top 28), Gs⟩ (defBody (top 28))).map (·.val) = some b__law_rules := by kernel_rfl
theorem d__law_rules {K : Fg} {h : Heap} {mg : Str → Option Value} (X : K.In h) (G : h.Ns mainGlobals mg) (c : He.SaysD fa fn K) : DefOk K mg names B Gs ⟨"_law_rules", ["book", "name", "k"], 2, b__law_rules⟩ :=
  def_ok (names := names) (B := B) (Gs := Gs) (N := ["book", "name", "k"]) (ps := ["book", "name"]) X G c 21 (st := top 28) rfl 21 rfl c__law_rules ⟨rfl, rfl, rfl, by decide +kernel, rfl, by decide +kernel, by decide +kernel⟩ rfl fun _ _ _ _ _ _ us hl => match us, hl with | [_, _], _ => rfl
theorem c__law_parts : (cSs 60 60 ⟨names, B, ["node"], defScope (top 29), Gs⟩ (defBody (top 29))).map (·.val) = some b__law_parts := by kernel_rfl
theorem d__law_parts {K : Fg} {h : Heap} {mg : Str → Option Value} (X : K.In h) (G : h.Ns mainGlobals mg) (c : He.SaysD fa fn K) : DefOk K mg names B Gs ⟨"_law_parts", ["node"], 1, b__law_parts⟩ :=
  def_ok (names := names) (B := B) (Gs := Gs) (N := ["node"]) (ps := ["node"]) X G c 22 (st := top 29) rfl 22 rfl c__law_parts ⟨rfl, rfl, rfl, by decide +kernel, rfl, by decide +kernel, by decide +kernel⟩ rfl fun _ _ _ _ _ _ us hl => match us, hl with | [_], _ => rfl
theorem c__law_flat : (cSs 60 60 ⟨names, B, ["thing", "nodes", "below", "waiting", "turn", "node", "above", "part"], defScope (top 30), Gs⟩ (defBody (top 30))).map (·.val) = some b__law_flat := by kernel_rfl
theorem d__law_flat {K : Fg} {h : Heap} {mg : Str → Option Value} (X : K.In h) (G : h.Ns mainGlobals mg) (c : He.SaysD fa fn K) : DefOk K mg names B Gs ⟨"_law_flat", ["thing", "nodes", "below", "waiting", "turn", "node", "above", "part"], 1, b__law_flat⟩ :=
  def_ok (names := names) (B := B) (Gs := Gs) (N := ["thing", "nodes", "below", "waiting", "turn", "node", "above", "part"]) (ps := ["thing"]) X G c 23 (st := top 30) rfl 23 rfl c__law_flat ⟨rfl, rfl, rfl, by decide +kernel, rfl, by decide +kernel, by decide +kernel⟩ rfl fun _ _ _ _ _ _ us hl => match us, hl with | [_], _ => rfl
theorem c__law_steps : (cSs 60 60 ⟨names, B, ["build"], defScope (top 31), Gs⟩ (defBody (top 31))).map (·.val) = some b__law_steps := by kernel_rfl
theorem d__law_steps {K : Fg} {h : Heap} {mg : Str → Option Value} (X : K.In h) (G : h.Ns mainGlobals mg) (c : He.SaysD fa fn K) : DefOk K mg names B Gs ⟨"_law_steps", ["build"], 1, b__law_steps⟩ :=
  def_ok (names := names) (B := B) (Gs := Gs) (N := ["build"]) (ps := ["build"]) X G c 24 (st := top 31) rfl 24 rfl c__law_steps ⟨rfl, rfl, rfl, by decide +kernel, rfl, by decide +kernel, by decide +kernel⟩ rfl fun _ _ _ _ _ _ us hl => match us, hl with | [_], _ => rfl
theorem c__law_joined : (cSs 60 60 ⟨names, B, ["rows", "built", "k", "rule", "many", "parts", "j"], defScope (top 32), Gs⟩ (defBody (top 32))).map (·.val) = some b__law_joined := by kernel_rfl
theorem d__law_joined {K : Fg} {h : Heap} {mg : Str → Option Value} (X : K.In h) (G : h.Ns mainGlobals mg) (c : He.SaysD fa fn K) : DefOk K mg names B Gs ⟨"_law_joined", ["rows", "built", "k", "rule", "many", "parts", "j"], 1, b__law_joined⟩ :=
  def_ok (names := names) (B := B) (Gs := Gs) (N := ["rows", "built", "k", "rule", "many", "parts", "j"]) (ps := ["rows"]) X G c 25 (st := top 32) rfl 25 rfl c__law_joined ⟨rfl, rfl, rfl, by decide +kernel, rfl, by decide +kernel, by decide +kernel⟩ rfl fun _ _ _ _ _ _ us hl => match us, hl with | [_], _ => rfl
theorem c__law_least : (cSs 60 60 ⟨names, B, ["book", "least", "turn", "rule", "steps", "slot"], defScope (top 33), Gs⟩ (defBody (top 33))).map (·.val) = some b__law_least := by kernel_rfl
theorem d__law_least {K : Fg} {h : Heap} {mg : Str → Option Value} (X : K.In h) (G : h.Ns mainGlobals mg) (c : He.SaysD fa fn K) : DefOk K mg names B Gs ⟨"_law_least", ["book", "least", "turn", "rule", "steps", "slot"], 1, b__law_least⟩ :=
  def_ok (names := names) (B := B) (Gs := Gs) (N := ["book", "least", "turn", "rule", "steps", "slot"]) (ps := ["book"]) X G c 26 (st := top 33) rfl 26 rfl c__law_least ⟨rfl, rfl, rfl, by decide +kernel, rfl, by decide +kernel, by decide +kernel⟩ rfl fun _ _ _ _ _ _ us hl => match us, hl with | [_], _ => rfl
theorem c__law_build : (cSs 60 60 ⟨names, B, ["d", "book", "name", "most", "least", "spare", "rows", "waiting", "turn", "due", "open_rules", "number", "slots", "more", "k", "slot"], defScope (top 34), Gs⟩ (defBody (top 34))).map (·.val) = some b__law_build := by kernel_rfl
theorem d__law_build {K : Fg} {h : Heap} {mg : Str → Option Value} (X : K.In h) (G : h.Ns mainGlobals mg) (c : He.SaysD fa fn K) : DefOk K mg names B Gs ⟨"_law_build", ["d", "book", "name", "most", "least", "spare", "rows", "waiting", "turn", "due", "open_rules", "number", "slots", "more", "k", "slot"], 4, b__law_build⟩ :=
  def_ok (names := names) (B := B) (Gs := Gs) (N := ["d", "book", "name", "most", "least", "spare", "rows", "waiting", "turn", "due", "open_rules", "number", "slots", "more", "k", "slot"]) (ps := ["d", "book", "name", "most"]) X G c 27 (st := top 34) rfl 27 rfl c__law_build ⟨rfl, rfl, rfl, by decide +kernel, rfl, by decide +kernel, by decide +kernel⟩ rfl fun _ _ _ _ _ _ us hl => match us, hl with | [_, _, _, _], _ => rfl
theorem c__law_is_build : (cSs 60 60 ⟨names, B, ["book", "name", "thing", "most", "waiting", "turn", "due", "node", "k"], defScope (top 35), Gs⟩ (defBody (top 35))).map (·.val) = some b__law_is_build := by kernel_rfl
theorem d__law_is_build {K : Fg} {h : Heap} {mg : Str → Option Value} (X : K.In h) (G : h.Ns mainGlobals mg) (c : He.SaysD fa fn K) : DefOk K mg names B Gs ⟨"_law_is_build", ["book", "name", "thing", "most", "waiting", "turn", "due", "node", "k"], 4, b__law_is_build⟩ :=
  def_ok (names := names) (B := B) (Gs := Gs) (N := ["book", "name", "thing", "most", "waiting", "turn", "due", "node", "k"]) (ps := ["book", "name", "thing", "most"]) X G c 28 (st := top 35) rfl 28 rfl c__law_is_build ⟨rfl, rfl, rfl, by decide +kernel, rfl, by decide +kernel, by decide +kernel⟩ rfl fun _ _ _ _ _ _ us hl => match us, hl with | [_, _, _, _], _ => rfl
theorem c__law_laid : (cSs 60 60 ⟨names, B, ["book", "build", "nodes", "below", "arity", "joints", "marks", "ties", "spots", "after", "place", "rule", "own", "one", "other", "strand", "k", "node", "at"], defScope (top 36), Gs⟩ (defBody (top 36))).map (·.val) = some b__law_laid := by kernel_rfl
theorem d__law_laid {K : Fg} {h : Heap} {mg : Str → Option Value} (X : K.In h) (G : h.Ns mainGlobals mg) (c : He.SaysD fa fn K) : DefOk K mg names B Gs ⟨"_law_laid", ["book", "build", "nodes", "below", "arity", "joints", "marks", "ties", "spots", "after", "place", "rule", "own", "one", "other", "strand", "k", "node", "at"], 2, b__law_laid⟩ :=
  def_ok (names := names) (B := B) (Gs := Gs) (N := ["book", "build", "nodes", "below", "arity", "joints", "marks", "ties", "spots", "after", "place", "rule", "own", "one", "other", "strand", "k", "node", "at"]) (ps := ["book", "build"]) X G c 29 (st := top 36) rfl 29 rfl c__law_laid ⟨rfl, rfl, rfl, by decide +kernel, rfl, by decide +kernel, by decide +kernel⟩ rfl fun _ _ _ _ _ _ us hl => match us, hl with | [_, _], _ => rfl
theorem c__law_grow : (cSs 60 60 ⟨names, B, ["book", "build"], defScope (top 37), Gs⟩ (defBody (top 37))).map (·.val) = some b__law_grow := by kernel_rfl
theorem d__law_grow {K : Fg} {h : Heap} {mg : Str → Option Value} (X : K.In h) (G : h.Ns mainGlobals mg) (c : He.SaysD fa fn K) : DefOk K mg names B Gs ⟨"_law_grow", ["book", "build"], 2, b__law_grow⟩ :=
  def_ok (names := names) (B := B) (Gs := Gs) (N := ["book", "build"]) (ps := ["book", "build"]) X G c 30 (st := top 37) rfl 30 rfl c__law_grow ⟨rfl, rfl, rfl, by decide +kernel, rfl, by decide +kernel, by decide +kernel⟩ rfl fun _ _ _ _ _ _ us hl => match us, hl with | [_, _], _ => rfl
theorem c__law_put : (cSs 60 60 ⟨names, B, ["build", "path", "other", "way", "k", "found", "depth", "parts"], defScope (top 38), Gs⟩ (defBody (top 38))).map (·.val) = some b__law_put := by kernel_rfl
theorem d__law_put {K : Fg} {h : Heap} {mg : Str → Option Value} (X : K.In h) (G : h.Ns mainGlobals mg) (c : He.SaysD fa fn K) : DefOk K mg names B Gs ⟨"_law_put", ["build", "path", "other", "way", "k", "found", "depth", "parts"], 3, b__law_put⟩ :=
  def_ok (names := names) (B := B) (Gs := Gs) (N := ["build", "path", "other", "way", "k", "found", "depth", "parts"]) (ps := ["build", "path", "other"]) X G c 31 (st := top 38) rfl 31 rfl c__law_put ⟨rfl, rfl, rfl, by decide +kernel, rfl, by decide +kernel, by decide +kernel⟩ rfl fun _ _ _ _ _ _ us hl => match us, hl with | [_, _, _], _ => rfl
theorem c__law_paths : (cSs 60 60 ⟨names, B, ["build", "nodes", "below", "paths", "place", "k", "node"], defScope (top 39), Gs⟩ (defBody (top 39))).map (·.val) = some b__law_paths := by kernel_rfl
theorem d__law_paths {K : Fg} {h : Heap} {mg : Str → Option Value} (X : K.In h) (G : h.Ns mainGlobals mg) (c : He.SaysD fa fn K) : DefOk K mg names B Gs ⟨"_law_paths", ["build", "nodes", "below", "paths", "place", "k", "node"], 1, b__law_paths⟩ :=
  def_ok (names := names) (B := B) (Gs := Gs) (N := ["build", "nodes", "below", "paths", "place", "k", "node"]) (ps := ["build"]) X G c 32 (st := top 39) rfl 32 rfl c__law_paths ⟨rfl, rfl, rfl, by decide +kernel, rfl, by decide +kernel, by decide +kernel⟩ rfl fun _ _ _ _ _ _ us hl => match us, hl with | [_], _ => rfl
theorem c__law_names_along : (cSs 60 60 ⟨names, B, ["book", "name", "build", "nodes", "below", "names", "place", "k", "node"], defScope (top 40), Gs⟩ (defBody (top 40))).map (·.val) = some b__law_names_along := by kernel_rfl
theorem d__law_names_along {K : Fg} {h : Heap} {mg : Str → Option Value} (X : K.In h) (G : h.Ns mainGlobals mg) (c : He.SaysD fa fn K) : DefOk K mg names B Gs ⟨"_law_names_along", ["book", "name", "build", "nodes", "below", "names", "place", "k", "node"], 3, b__law_names_along⟩ :=
  def_ok (names := names) (B := B) (Gs := Gs) (N := ["book", "name", "build", "nodes", "below", "names", "place", "k", "node"]) (ps := ["book", "name", "build"]) X G c 33 (st := top 40) rfl 33 rfl c__law_names_along ⟨rfl, rfl, rfl, by decide +kernel, rfl, by decide +kernel, by decide +kernel⟩ rfl fun _ _ _ _ _ _ us hl => match us, hl with | [_, _, _], _ => rfl
theorem c__law_dress : (cSs 60 60 ⟨names, B, ["book", "build", "tags", "nodes", "below", "spots", "found", "k", "place", "own", "node", "spot", "part"], defScope (top 41), Gs⟩ (defBody (top 41))).map (·.val) = some b__law_dress := by kernel_rfl
theorem d__law_dress {K : Fg} {h : Heap} {mg : Str → Option Value} (X : K.In h) (G : h.Ns mainGlobals mg) (c : He.SaysD fa fn K) : DefOk K mg names B Gs ⟨"_law_dress", ["book", "build", "tags", "nodes", "below", "spots", "found", "k", "place", "own", "node", "spot", "part"], 3, b__law_dress⟩ :=
  def_ok (names := names) (B := B) (Gs := Gs) (N := ["book", "build", "tags", "nodes", "below", "spots", "found", "k", "place", "own", "node", "spot", "part"]) (ps := ["book", "build", "tags"]) X G c 34 (st := top 41) rfl 34 rfl c__law_dress ⟨rfl, rfl, rfl, by decide +kernel, rfl, by decide +kernel, by decide +kernel⟩ rfl fun _ _ _ _ _ _ us hl => match us, hl with | [_, _, _], _ => rfl
theorem c__law_titles : (cSs 60 60 ⟨names, B, ["d", "many", "capitals", "signs", "size", "stem", "way", "at", "start", "step", "found", "k"], defScope (top 42), Gs⟩ (defBody (top 42))).map (·.val) = some b__law_titles := by kernel_rfl
theorem d__law_titles {K : Fg} {h : Heap} {mg : Str → Option Value} (X : K.In h) (G : h.Ns mainGlobals mg) (c : He.SaysD fa fn K) : DefOk K mg names B Gs ⟨"_law_titles", ["d", "many", "capitals", "signs", "size", "stem", "way", "at", "start", "step", "found", "k"], 2, b__law_titles⟩ :=
  def_ok (names := names) (B := B) (Gs := Gs) (N := ["d", "many", "capitals", "signs", "size", "stem", "way", "at", "start", "step", "found", "k"]) (ps := ["d", "many"]) X G c 35 (st := top 42) rfl 35 rfl c__law_titles ⟨rfl, rfl, rfl, by decide +kernel, rfl, by decide +kernel, by decide +kernel⟩ rfl fun _ _ _ _ _ _ us hl => match us, hl with | [_, _], _ => rfl
theorem c__law_land : (cSs 60 60 ⟨names, B, ["d", "scale", "many", "titles", "bare", "pairs", "marks", "strands", "is_large", "rules", "pair", "inner", "k", "used", "title", "j"], defScope (top 43), Gs⟩ (defBody (top 43))).map (·.val) = some b__law_land := by kernel_rfl
theorem d__law_land {K : Fg} {h : Heap} {mg : Str → Option Value} (X : K.In h) (G : h.Ns mainGlobals mg) (c : He.SaysD fa fn K) : DefOk K mg names B Gs ⟨"_law_land", ["d", "scale", "many", "titles", "bare", "pairs", "marks", "strands", "is_large", "rules", "pair", "inner", "k", "used", "title", "j"], 1, b__law_land⟩ :=
  def_ok (names := names) (B := B) (Gs := Gs) (N := ["d", "scale", "many", "titles", "bare", "pairs", "marks", "strands", "is_large", "rules", "pair", "inner", "k", "used", "title", "j"]) (ps := ["d"]) X G c 36 (st := top 43) rfl 36 rfl c__law_land ⟨rfl, rfl, rfl, by decide +kernel, rfl, by decide +kernel, by decide +kernel⟩ rfl fun _ _ _ _ _ _ us hl => match us, hl with | [_], _ => rfl
theorem c__law_loops : (cSs 60 60 ⟨names, B, ["book", "found", "number", "rule", "slot"], defScope (top 44), Gs⟩ (defBody (top 44))).map (·.val) = some b__law_loops := by kernel_rfl
theorem d__law_loops {K : Fg} {h : Heap} {mg : Str → Option Value} (X : K.In h) (G : h.Ns mainGlobals mg) (c : He.SaysD fa fn K) : DefOk K mg names B Gs ⟨"_law_loops", ["book", "found", "number", "rule", "slot"], 1, b__law_loops⟩ :=
  def_ok (names := names) (B := B) (Gs := Gs) (N := ["book", "found", "number", "rule", "slot"]) (ps := ["book"]) X G c 37 (st := top 44) rfl 37 rfl c__law_loops ⟨rfl, rfl, rfl, by decide +kernel, rfl, by decide +kernel, by decide +kernel⟩ rfl fun _ _ _ _ _ _ us hl => match us, hl with | [_], _ => rfl
theorem c__law_sized : (cSs 60 60 ⟨names, B, ["d", "book", "name", "size", "loops", "build", "nodes", "below", "rows", "names", "turn", "at", "k"], defScope (top 45), Gs⟩ (defBody (top 45))).map (·.val) = some b__law_sized := by kernel_rfl
theorem d__law_sized {K : Fg} {h : Heap} {mg : Str → Option Value} (X : K.In h) (G : h.Ns mainGlobals mg) (c : He.SaysD fa fn K) : DefOk K mg names B Gs ⟨"_law_sized", ["d", "book", "name", "size", "loops", "build", "nodes", "below", "rows", "names", "turn", "at", "k"], 4, b__law_sized⟩ :=
  def_ok (names := names) (B := B) (Gs := Gs) (N := ["d", "book", "name", "size", "loops", "build", "nodes", "below", "rows", "names", "turn", "at", "k"]) (ps := ["d", "book", "name", "size"]) X G c 38 (st := top 45) rfl 38 rfl c__law_sized ⟨rfl, rfl, rfl, by decide +kernel, rfl, by decide +kernel, by decide +kernel⟩ rfl fun _ _ _ _ _ _ us hl => match us, hl with | [_, _, _, _], _ => rfl
theorem c__law_nodes_right : (cSs 60 60 ⟨names, B, ["told", "build", "pairs", "k", "step"], defScope (top 46), Gs⟩ (defBody (top 46))).map (·.val) = some b__law_nodes_right := by kernel_rfl
theorem d__law_nodes_right {K : Fg} {h : Heap} {mg : Str → Option Value} (X : K.In h) (G : h.Ns mainGlobals mg) (c : He.SaysD fa fn K) : DefOk K mg names B Gs ⟨"_law_nodes_right", ["told", "build", "pairs", "k", "step"], 2, b__law_nodes_right⟩ :=
  def_ok (names := names) (B := B) (Gs := Gs) (N := ["told", "build", "pairs", "k", "step"]) (ps := ["told", "build"]) X G c 39 (st := top 46) rfl 39 rfl c__law_nodes_right ⟨rfl, rfl, rfl, by decide +kernel, rfl, by decide +kernel, by decide +kernel⟩ rfl fun _ _ _ _ _ _ us hl => match us, hl with | [_, _], _ => rfl
theorem c__law_names_right : (cSs 60 60 ⟨names, B, ["book", "name", "thing", "places", "pairs", "names", "place", "told"], defScope (top 47), Gs⟩ (defBody (top 47))).map (·.val) = some b__law_names_right := by kernel_rfl
theorem d__law_names_right {K : Fg} {h : Heap} {mg : Str → Option Value} (X : K.In h) (G : h.Ns mainGlobals mg) (c : He.SaysD fa fn K) : DefOk K mg names B Gs ⟨"_law_names_right", ["book", "name", "thing", "places", "pairs", "names", "place", "told"], 4, b__law_names_right⟩ :=
  def_ok (names := names) (B := B) (Gs := Gs) (N := ["book", "name", "thing", "places", "pairs", "names", "place", "told"]) (ps := ["book", "name", "thing", "places"]) X G c 40 (st := top 47) rfl 40 rfl c__law_names_right ⟨rfl, rfl, rfl, by decide +kernel, rfl, by decide +kernel, by decide +kernel⟩ rfl fun _ _ _ _ _ _ us hl => match us, hl with | [_, _, _, _], _ => rfl
theorem c__law_outlined : (cSs 60 60 ⟨names, B, ["pairs", "path", "node"], defScope (top 48), Gs⟩ (defBody (top 48))).map (·.val) = some b__law_outlined := by kernel_rfl
theorem d__law_outlined {K : Fg} {h : Heap} {mg : Str → Option Value} (X : K.In h) (G : h.Ns mainGlobals mg) (c : He.SaysD fa fn K) : DefOk K mg names B Gs ⟨"_law_outlined", ["pairs", "path", "node"], 1, b__law_outlined⟩ :=
  def_ok (names := names) (B := B) (Gs := Gs) (N := ["pairs", "path", "node"]) (ps := ["pairs"]) X G c 41 (st := top 48) rfl 41 rfl c__law_outlined ⟨rfl, rfl, rfl, by decide +kernel, rfl, by decide +kernel, by decide +kernel⟩ rfl fun _ _ _ _ _ _ us hl => match us, hl with | [_], _ => rfl
theorem c__law_put_right : (cSs 60 60 ⟨names, B, ["d", "book", "name", "build", "place", "pairs", "path", "old", "due", "size", "room", "other", "told", "inner", "pair"], defScope (top 49), Gs⟩ (defBody (top 49))).map (·.val) = some b__law_put_right := by kernel_rfl
theorem d__law_put_right {K : Fg} {h : Heap} {mg : Str → Option Value} (X : K.In h) (G : h.Ns mainGlobals mg) (c : He.SaysD fa fn K) : DefOk K mg names B Gs ⟨"_law_put_right", ["d", "book", "name", "build", "place", "pairs", "path", "old", "due", "size", "room", "other", "told", "inner", "pair"], 5, b__law_put_right⟩ :=
  def_ok (names := names) (B := B) (Gs := Gs) (N := ["d", "book", "name", "build", "place", "pairs", "path", "old", "due", "size", "room", "other", "told", "inner", "pair"]) (ps := ["d", "book", "name", "build", "place"]) X G c 42 (st := top 49) rfl 42 rfl c__law_put_right ⟨rfl, rfl, rfl, by decide +kernel, rfl, by decide +kernel, by decide +kernel⟩ rfl fun _ _ _ _ _ _ us hl => match us, hl with | [_, _, _, _, _], _ => rfl
theorem c__law_renamed : (cSs 60 60 ⟨names, B, ["book", "fresh", "k", "pairs", "rules", "name", "marks", "ties", "slots", "arity", "slot"], defScope (top 50), Gs⟩ (defBody (top 50))).map (·.val) = some b__law_renamed := by kernel_rfl
theorem d__law_renamed {K : Fg} {h : Heap} {mg : Str → Option Value} (X : K.In h) (G : h.Ns mainGlobals mg) (c : He.SaysD fa fn K) : DefOk K mg names B Gs ⟨"_law_renamed", ["book", "fresh", "k", "pairs", "rules", "name", "marks", "ties", "slots", "arity", "slot"], 1, b__law_renamed⟩ :=
  def_ok (names := names) (B := B) (Gs := Gs) (N := ["book", "fresh", "k", "pairs", "rules", "name", "marks", "ties", "slots", "arity", "slot"]) (ps := ["book"]) X G c 43 (st := top 50) rfl 43 rfl c__law_renamed ⟨rfl, rfl, rfl, by decide +kernel, rfl, by decide +kernel, by decide +kernel⟩ rfl fun _ _ _ _ _ _ us hl => match us, hl with | [_], _ => rfl
theorem c__law_places : (cSs 60 60 ⟨names, B, ["d", "many"], defScope (top 51), Gs⟩ (defBody (top 51))).map (·.val) = some b__law_places := by kernel_rfl
theorem d__law_places {K : Fg} {h : Heap} {mg : Str → Option Value} (X : K.In h) (G : h.Ns mainGlobals mg) (c : He.SaysD fa fn K) : DefOk K mg names B Gs ⟨"_law_places", ["d", "many"], 2, b__law_places⟩ :=
  def_ok (names := names) (B := B) (Gs := Gs) (N := ["d", "many"]) (ps := ["d", "many"]) X G c 44 (st := top 51) rfl 44 rfl c__law_places ⟨rfl, rfl, rfl, by decide +kernel, rfl, by decide +kernel, by decide +kernel⟩ rfl fun _ _ _ _ _ _ us hl => match us, hl with | [_, _], _ => rfl
theorem c_law : (cSs 60 60 ⟨names, B, ["script", "d", "book", "name", "size", "build", "path", "node", "told", "twin", "fresh", "place", "at", "holed", "left", "web", "start", "step", "tags", "k"], defScope (top 52), Gs⟩ (defBody (top 52))).map (·.val) = some b_law := by kernel_rfl
theorem d_law {K : Fg} {h : Heap} {mg : Str → Option Value} (X : K.In h) (G : h.Ns mainGlobals mg) (c : He.SaysD fa fn K) : DefOk K mg names B Gs ⟨"law", ["script", "d", "book", "name", "size", "build", "path", "node", "told", "twin", "fresh", "place", "at", "holed", "left", "web", "start", "step", "tags", "k"], 1, b_law⟩ :=
  def_ok (names := names) (B := B) (Gs := Gs) (N := ["script", "d", "book", "name", "size", "build", "path", "node", "told", "twin", "fresh", "place", "at", "holed", "left", "web", "start", "step", "tags", "k"]) (ps := ["script"]) X G c 45 (st := top 52) rfl 45 rfl c_law ⟨rfl, rfl, rfl, by decide +kernel, rfl, by decide +kernel, by decide +kernel⟩ rfl fun _ _ _ _ _ _ us hl => match us, hl with | [_], _ => rfl
theorem defs {K : Fg} {h : Heap} {mg : Str → Option Value} (X : K.In h) (G : h.Ns mainGlobals mg) (c : He.SaysD fa fn K) : ∀ f ∈ T, DefOk K mg names B Gs f := by
  intro f hf
  simp only [T, List.mem_append, List.mem_cons, List.not_mem_nil, or_false, or_assoc] at hf
  rcases hf with rfl | rfl | rfl | rfl | rfl | rfl | rfl | rfl | rfl | rfl | rfl | rfl | rfl | rfl | rfl | rfl | rfl | rfl | rfl | rfl | rfl | rfl | rfl | rfl | rfl | rfl | rfl | rfl | rfl | rfl | rfl | rfl | rfl | rfl | rfl | rfl | rfl | rfl | rfl | rfl | rfl | rfl | rfl | rfl | rfl | rfl
  · exact d_is_number X G c
  · exact d_is_between X G c
  · exact d_rule_at X G c
  · exact d_slots_of X G c
  · exact d_flat X G c
  · exact d_paths_of X G c
  · exact d_nodes_of X G c
  · exact d_part_at X G c
  · exact d_put_at X G c
  · exact d_name_at X G c
  · exact d__law_begin X G c
  · exact d__law_draw X G c
  · exact d__law_pick X G c
  · exact d__law_shuffled X G c
  · exact d__law_some X G c
  · exact d__law_is_int X G c
  · exact d__law_letter X G c
  · exact d__law_ties X G c
  · exact d__law_marks X G c
  · exact d__law_rule X G c
  · exact d__law_arity X G c
  · exact d__law_rules X G c
  · exact d__law_parts X G c
  · exact d__law_flat X G c
  · exact d__law_steps X G c
  · exact d__law_joined X G c
  · exact d__law_least X G c
  · exact d__law_build X G c
  · exact d__law_is_build X G c
  · exact d__law_laid X G c
  · exact d__law_grow X G c
  · exact d__law_put X G c
  · exact d__law_paths X G c
  · exact d__law_names_along X G c
  · exact d__law_dress X G c
  · exact d__law_titles X G c
  · exact d__law_land X G c
  · exact d__law_loops X G c
  · exact d__law_sized X G c
  · exact d__law_nodes_right X G c
  · exact d__law_names_right X G c
  · exact d__law_outlined X G c
  · exact d__law_put_right X G c
  · exact d__law_renamed X G c
  · exact d__law_places X G c
  · exact d_law X G c
theorem frees {K : Fg} {h : Heap} {mg : Str → Option Value} (X : K.In h) (G : h.Ns mainGlobals mg) (c : He.SaysD fa fn K) : ∀ x ∈ B, mg x = none := by
  intro x hx
  simp only [B, List.mem_cons, List.not_mem_nil, or_false] at hx
  rcases hx with rfl | rfl | rfl | rfl | rfl | rfl | rfl | rfl | rfl | rfl | rfl | rfl | rfl | rfl
  · exact He.free_ok X G (c.fact 46 (f := .free "len") rfl)
  · exact He.free_ok X G (c.fact 47 (f := .free "range") rfl)
  · exact He.free_ok X G (c.fact 48 (f := .free "tuple") rfl)
  · exact He.free_ok X G (c.fact 49 (f := .free "int") rfl)
  · exact He.free_ok X G (c.fact 50 (f := .free "sorted") rfl)
  · exact He.free_ok X G (c.fact 51 (f := .free "isinstance") rfl)
  · exact He.free_ok X G (c.fact 52 (f := .free "list") rfl)
  · exact He.free_ok X G (c.fact 53 (f := .free "sum") rfl)
  · exact He.free_ok X G (c.fact 54 (f := .free "min") rfl)
  · exact He.free_ok X G (c.fact 55 (f := .free "max") rfl)
  · exact He.free_ok X G (c.fact 56 (f := .free "all") rfl)
  · exact He.free_ok X G (c.fact 57 (f := .free "str") rfl)
  · exact He.free_ok X G (c.fact 58 (f := .free "abs") rfl)
  · exact He.free_ok X G (c.fact 59 (f := .free "bool") rfl)
end K13
section
open PySem PySem.Spec PyProof.Rows L2 PQ
namespace K13
local macro_rules
  | `(tactic| mul_fits) => `(tactic| (repeat (first
    | (with_reducible refine PQ.w_scons ?_)
    | ((with_reducible apply PQ.w_var); (focus (exact rfl)))
    | (with_reducible refine PQ.w_bin ?_)
    | (with_reducible refine PQ.w_call ?_)
    | (with_reducible refine PQ.w_cons ?_)
    | (with_reducible refine PQ.w_nil ?_)
    | (with_reducible refine PQ.w_lit ?_)
    | (with_reducible refine PQ.w_cmp ?_)
    | (with_reducible refine PQ.w_idx ?_)
    | (with_reducible refine PQ.w_set ?_)
    | (with_reducible refine PQ.w_ret ?_)
    | (with_reducible refine PQ.w_ite ?_)
    | (with_reducible refine PQ.w_tv ?_)
    | (with_reducible refine PQ.w_tnot ?_)
    | (with_reducible refine PQ.w_nx ?_)
    | (with_reducible refine PQ.w_rt ?_)
    | (with_reducible refine PQ.w_if_t ?_)
    | (with_reducible refine PQ.w_if_f ?_)
    | (with_reducible refine PQ.w_if_nt ?_)
    | (with_reducible refine PQ.w_if_nf ?_)
    | (with_reducible refine PQ.w_tru_b ?_)
    | (with_reducible refine PQ.w_tru_i ?_)
    | (with_reducible refine PQ.w_tru_t ?_)
    | (with_reducible refine PQ.w_ok ?_)
    | (with_reducible refine PQ.w_snil ?_)
    | (with_reducible refine PQ.w_ex ?_)
    | (with_reducible refine PQ.w_agg ?_)
    | (with_reducible refine PQ.w_fn1 ?_)
    | (with_reducible refine PQ.w_fn2 ?_)
    | (with_reducible refine PQ.w_tup ?_)
    | (with_reducible refine PQ.w_alloc ?_)
    | (with_reducible refine PQ.w_disp ?_)
    | (with_reducible refine PQ.w_e ?_)
    | (with_reducible refine PQ.w_q ?_)
    | (with_reducible refine PQ.w_ir ?_)
    | (with_reducible refine PQ.w_for ?_)
    | (with_reducible refine PQ.w_comp ?_)
    | (with_reducible refine PQ.w_compIf ?_)
    | (with_reducible refine PQ.w_and ?_)
    | (with_reducible refine PQ.w_or ?_)
    | (with_reducible refine PQ.w_not ?_)
    | (with_reducible refine PQ.w_ife ?_)
    | (with_reducible refine PQ.w_slc ?_)
    | (with_reducible refine PQ.w_oN ?_)
    | (with_reducible refine PQ.w_isi ?_)
    | (with_reducible refine PQ.w_app ?_)
    | (with_reducible refine PQ.w_ext ?_)
    | (with_reducible refine PQ.w_pop ?_)
    | (with_reducible refine PQ.w_popAt ?_)
    | (with_reducible refine PQ.w_join ?_)
    | (with_reducible refine PQ.w_tix ?_)
    | (with_reducible refine PQ.w_ins ?_)
    | (with_reducible refine PQ.v_tixT ?_)
    | (with_reducible refine PQ.w_isN ?_)
    | (with_reducible refine PQ.w_notN ?_)
    | (with_reducible refine PQ.w_inr ?_)
    | (with_reducible refine PQ.w_notInr ?_)
    | (with_reducible refine PQ.w_chn ?_)
    | (with_reducible refine PQ.w_tand ?_)
    | (with_reducible refine PQ.w_tor ?_)
    | (with_reducible refine PQ.w_cat ?_)
    | (with_reducible refine PQ.w_sorted ?_)
    | (with_reducible refine PQ.w_list ?_)
    | (with_reducible refine PQ.w_rev ?_)
    | (with_reducible refine PQ.w_setT ?_)
    | (with_reducible refine PQ.w_par ?_)
    | (with_reducible refine PQ.w_sub ?_)
    | (with_reducible refine PQ.w_bk ?_)
    | (with_reducible refine PQ.w_ct ?_)
    | (with_reducible refine PQ.w_brk ?_)
    | (with_reducible refine PQ.w_cont ?_)
    | (with_reducible refine PQ.w_pass ?_)
    | (with_reducible refine PQ.w_dnew ?_)
    | (with_reducible refine PQ.w_dget ?_)
    | (with_reducible refine PQ.v_add ?_)
    | (with_reducible refine PQ.v_addB ?_)
    | (with_reducible refine PQ.v_sub ?_)
    | (with_reducible refine PQ.v_band ?_)
    | (with_reducible refine PQ.v_bor ?_)
    | (with_reducible refine PQ.v_bxor ?_)
    | (with_reducible refine PQ.v_augAdd ?_)
    | (with_reducible refine PQ.v_augSub ?_)
    | (with_reducible refine PQ.v_lt ?_)
    | (with_reducible refine PQ.v_le ?_)
    | (with_reducible refine PQ.v_gt ?_)
    | (with_reducible refine PQ.v_ge ?_)
    | (with_reducible refine PQ.v_eq ?_)
    | (with_reducible refine PQ.v_ne ?_)
    | (with_reducible refine PQ.v_eqS ?_)
    | (with_reducible refine PQ.v_neS ?_)
    | (with_reducible refine PQ.v_eqB ?_)
    | (with_reducible refine PQ.v_intI ?_)
    | (with_reducible refine PQ.v_intB ?_)
    | (with_reducible refine PQ.v_abs ?_)
    | (with_reducible refine PQ.v_gcd ?_)
    | (with_reducible refine PQ.v_min2 ?_)
    | (with_reducible refine PQ.v_max2 ?_)
    | (with_reducible refine PQ.v_slcT ?_)
    | (with_reducible refine PQ.w_bind ?_)
    | (with_reducible refine PQ.r_nx ?_)
    | (with_reducible refine PQ.r_rt ?_)
    | (with_reducible refine PQ.g_self ?_)
    | ((with_reducible apply PQ.w_aug); (focus (exact rfl)))
    | (with_reducible refine PQ.w_neg ?_)
    | (with_reducible refine PQ.w_oS ?_)
    | (with_reducible refine PQ.w_listRg ?_)
    | (with_reducible refine PQ.w_rg ?_)
    | (with_reducible refine PQ.w_rgd ?_)
    | (with_reducible refine PQ.w_augS ?_)
    | ((with_reducible apply PQ.v_mul); (focus (first | assumption | exact .of_left (by decide +kernel) | exact .of_right (by decide +kernel))))
    | ((with_reducible apply PQ.v_fdiv); (focus (first | assumption | exact ⟨by omega, PyProof.noPylong_small (by omega)⟩)))
    | ((with_reducible apply PQ.v_mod); (focus (first | assumption | omega)))
    | ((with_reducible apply PQ.v_pow); (focus (first | assumption | (unfold CPow; decide +kernel) | (unfold CPow; omega))))
    | ((with_reducible apply PQ.v_shl); (focus (first | assumption | (unfold CPow; decide +kernel) | (unfold CPow; omega))))
    | ((with_reducible apply PQ.v_shr); (focus (first | assumption | omega)))
    | ((with_reducible apply PQ.v_idx); (focus (first | exact rfl | assumption)); (focus (first | exact rfl | assumption)))
    | ((with_reducible apply PQ.v_idxT); (focus (first | exact rfl | assumption)))
    | ((with_reducible apply PQ.v_idxF); (focus (first | exact rfl | assumption)))
    | ((with_reducible apply PQ.v_len); (focus (first | exact rfl | assumption)))
    | ((with_reducible apply PQ.v_tuple); (focus (first | exact rfl | assumption)))
    | ((with_reducible apply PQ.v_sum); (focus (first | exact rfl | assumption)); (focus (first | exact rfl | assumption)))
    | ((with_reducible apply PQ.v_all); (focus (first | exact rfl | assumption)); (focus (first | exact rfl | assumption)))
    | ((with_reducible apply PQ.v_any); (focus (first | exact rfl | assumption)); (focus (first | exact rfl | assumption)))
    | ((with_reducible apply PQ.v_slc); (focus (first | exact rfl | assumption)))
    | ((with_reducible apply PQ.v_set); (focus (first | exact rfl | assumption)); (focus (first | exact rfl | assumption)))
    | ((with_reducible apply PQ.v_lenS); (focus (refine Nat.le_trans (Nat.le_refl _) ?_; first | assumption | (refine PQ.le64 ?_; simp; done) | omega)))
    | ((with_reducible apply PQ.v_idxS); (focus (refine Nat.le_trans (Nat.le_refl _) ?_; first | assumption | (refine PQ.le64 ?_; simp; done) | omega)); (focus (first | exact rfl | assumption)))
    | ((with_reducible apply PQ.w_withL); (focus (first | exact rfl | assumption)))
    | ((with_reducible apply PQ.v_app); (focus (first | exact rfl | assumption)); (focus (first | assumption | exact Nat.lt_of_lt_of_le (Nat.lt_succ_self _) (Nat.le_of_ble_eq_true rfl) | omega)))
    | ((with_reducible apply PQ.v_addT); (focus (refine Nat.le_trans (Nat.le_refl _) ?_; first | assumption | (refine PQ.le64 ?_; simp; done) | omega)))
    | ((with_reducible apply PQ.v_addS); (focus (refine Nat.le_trans (Nat.le_refl _) ?_; first | assumption | (refine PQ.le64 ?_; simp; done) | omega)))
    | ((with_reducible apply PQ.v_addL); (focus (first | exact rfl | assumption)); (focus (first | exact rfl | assumption)); (focus (refine Nat.le_trans (Nat.le_refl _) ?_; first | assumption | (refine PQ.le64 ?_; simp; done) | omega)))
    | ((with_reducible apply PQ.w_tru_r); (focus (first | exact rfl | assumption)))
    | ((with_reducible apply PQ.w_if_T); (focus (exact rfl)))
    | ((with_reducible apply PQ.w_if_F); (focus (exact rfl)))
    | ((with_reducible apply PQ.w_may); (focus (exact rfl)))
    | ((with_reducible apply PQ.v_idxK); (focus (assumption)); (focus (exact rfl)); (focus (assumption)))
    | ((with_reducible apply PQ.v_setK); (focus (assumption)); (focus (exact rfl)); (focus (first | assumption | exact Nat.lt_of_lt_of_le (Nat.lt_succ_self _) (Nat.le_of_ble_eq_true rfl) | omega)))
    | ((with_reducible apply PQ.w_withD); (focus (assumption)))
    | ((with_reducible apply PQ.v_dget); (focus (assumption)); (focus (exact rfl)))
    | ((with_reducible apply PQ.v_lenD); (focus (assumption)))
    | ((with_reducible apply PQ.v_tixR); (focus (assumption)))
    | ((with_reducible apply PQ.w_mayI); (focus (assumption)))
    | ((with_reducible apply PQ.w_mayL); (focus (assumption)))
    | ((with_reducible apply PQ.w_mayV); (focus (assumption)))
    | ((with_reducible apply PQ.w_mayS); (focus (assumption)))
    | ((with_reducible apply PQ.w_mayT); (focus (assumption)))
    | ((with_reducible apply PQ.w_mayO); (focus (assumption)))
    | ((with_reducible apply PQ.v_lenR); (focus (assumption)))
    | ((with_reducible apply PQ.v_tupleR); (focus (assumption)))
    | ((with_reducible refine ⟨_, rfl, ?_⟩))
    | ((with_reducible apply PQ.w_augK); (focus (first | exact rfl | assumption)); (focus (first | exact rfl | assumption)))
    | ((with_reducible refine ⟨_, _, rfl, rfl, ?_, ?_⟩); (focus (first | assumption | (unfold bd62; omega) | (unfold RgOk; omega))))
    | ((with_reducible refine ⟨?_, ?_⟩); (focus (refine Nat.le_trans (Nat.le_refl _) ?_; first | assumption | (refine PQ.le64 ?_; simp; done) | omega))))))
def qD (q : Rat) : D := .tup [.int q.num, .int (q.den : Int)]
def QB (n : Nat) (q : Rat) : Prop := q.num.natAbs < 2 ^ n ∧ q.den < 2 ^ n
theorem QB.mono {m n : Nat} {q : Rat} (h : QB m q) (hm : m ≤ n) : QB n q := ⟨Nat.lt_of_lt_of_le h.1 (Nat.pow_le_pow_right (by decide) hm), Nat.lt_of_lt_of_le h.2 (Nat.pow_le_pow_right (by decide) hm)⟩
def gg (n d : Int) : Int := ((Nat.gcd n.natAbs d.natAbs : Nat) : Int)
section
variable {k : Nat} {S : Sto} {Q : D → Sto → Prop} {n d a b c e : Int}
end
section
variable {k : Nat} {S : Sto} {Q : D → Sto → Prop} {a b : Rat} {m n : Nat}
theorem den_ne (a : Rat) : ((a.den : Nat) : Int) ≠ 0 := by
  have := a.den_nz
  omega
theorem sub_eq : Rat.divInt (a.num * (b.den : Int) - b.num * (a.den : Int)) ((a.den : Int) * (b.den : Int)) = a - b := by
  rw [← Rat.divInt_sub_divInt _ _ (den_ne a) (den_ne b), Rat.num_divInt_den, Rat.num_divInt_den]
theorem add_eq : Rat.divInt (a.num * (b.den : Int) + b.num * (a.den : Int)) ((a.den : Int) * (b.den : Int)) = a + b := by
  rw [← Rat.divInt_add_divInt _ _ (den_ne a) (den_ne b), Rat.num_divInt_den, Rat.num_divInt_den]
theorem mul_eq : Rat.divInt (a.num * b.num) ((a.den : Int) * (b.den : Int)) = a * b := by
  rw [← Rat.divInt_mul_divInt, Rat.num_divInt_den, Rat.num_divInt_den]
/-- the parts of a fraction in lowest terms are not greater than those it is made of -/
theorem divInt_bd {x y : Int} {n : Nat} (hy : y ≠ 0) (hx : x.natAbs < 2 ^ n) (hb : y.natAbs < 2 ^ n) : QB n (Rat.divInt x y) := by
  have hg : 0 < y.gcd x := Nat.gcd_pos_of_pos_left _ (by omega)
  refine ⟨?_, ?_⟩
  · rw [Rat.num_divInt]
    have h1 := Int.natAbs_ediv_le_natAbs (y.sign * x) ((y.gcd x : Nat) : Int)
    have h2 : (y.sign * x).natAbs = x.natAbs := by
      rw [Int.natAbs_mul, Int.natAbs_sign_of_ne_zero hy, Nat.one_mul]
    omega
  · rw [Rat.den_divInt, if_neg hy]
    have := Nat.div_le_self y.natAbs (y.gcd x)
    omega
theorem n2 {q : Rat} (h : QB m q) : ((q.den : Nat) : Int).natAbs < 2 ^ m := by
  rw [Int.natAbs_natCast]
  exact h.2
theorem QB.sub (ha : QB m a) (hb : QB n b) : QB (m + n + 1) (a - b) := by
  rw [← sub_eq]
  refine divInt_bd (Int.mul_ne_zero (den_ne a) (den_ne b)) ?_ (bd_mono (mul_bd (n2 ha) (n2 hb)) (by omega))
  exact sub_bd (mul_bd ha.1 (n2 hb)) (by rw [Nat.add_comm m n]; exact mul_bd hb.1 (n2 ha))
theorem QB.add (ha : QB m a) (hb : QB n b) : QB (m + n + 1) (a + b) := by
  rw [← add_eq]
  refine divInt_bd (Int.mul_ne_zero (den_ne a) (den_ne b)) ?_ (bd_mono (mul_bd (n2 ha) (n2 hb)) (by omega))
  exact add_bd (mul_bd ha.1 (n2 hb)) (by rw [Nat.add_comm m n]; exact mul_bd hb.1 (n2 ha))
theorem QB.mul (ha : QB m a) (hb : QB n b) : QB (m + n) (a * b) := by
  rw [← mul_eq]
  exact divInt_bd (Int.mul_ne_zero (den_ne a) (den_ne b)) (mul_bd ha.1 hb.1) (mul_bd (n2 ha) (n2 hb))
theorem q0 : D.tup [.int 0, .int 1] = qD 0 := rfl
theorem q1 : D.tup [.int 1, .int 1] = qD 1 := rfl
theorem is_int_w {i : Int} (h : Q (.bl true) S) : W (orc T (k + 1) n__law_is_int [.int i] S) Q := by
  refine orc_w (ρ := [some (.int i)]) rfl rfl rfl ?_
  show W (evSs _ b__law_is_int _ _) _
  simp only [b__law_is_int]
  mul_fits
  exact h
end
structure Pt where
  one : Nat
  other : Nat
  strand : Str
abbrev Pt.d (s : Pt) : D := .tup [.int (s.one : Nat), .int (s.other : Nat), .str s.strand]
def Pt.p (s : Pt) : PyData := .tuple [.int (s.one : Nat), .int (s.other : Nat), .str s.strand]
theorem sort_congr2 {β : Type} {k : β → PyData} (inj : ∀ a b, PySem.W.keyToks (k a) = PySem.W.keyToks (k b) → a = b) {l m : List β} (h : l.Perm m) : l.mergeSort (PySem.W.dataLe false k) = m.mergeSort (PySem.W.dataLe false k) := by
  have tl : PySem.W.TotalLe (PySem.W.dataLe false k) := PySem.W.sortLe_total _ false _
  refine List.Perm.eq_of_pairwise (le := fun a b => PySem.W.dataLe false k a b = true) (fun a b _ _ h1 h2 => inj _ _ ?_) (PySem.W.sort_pairwise tl l) (PySem.W.sort_pairwise tl m) ((List.mergeSort_perm l _).trans (h.trans (List.mergeSort_perm m _).symm))
  rw [PySem.W.dataLe_eq] at h1 h2
  have h1 : (!PySem.W.dataLt (k b) (k a)) = true := h1
  have h2 : (!PySem.W.dataLt (k a) (k b)) = true := h2
  have q1 : PySem.W.dataLt (k b) (k a) = false := by simpa using h1
  have q2 : PySem.W.dataLt (k a) (k b) = false := by simpa using h2
  exact (PyProof.Rows.listOrd PyProof.Rows.itemOrd).total _ _ q2 q1
theorem pt_inj (a b : Pt) (h : PySem.W.keyToks a.p = PySem.W.keyToks b.p) : a = b := by
  simp [Pt.p, PySem.W.keyToks, PySem.W.keyToksAll] at h
  obtain ⟨h1, h2, h3⟩ := h
  cases a
  cases b
  simp at h1 h2 h3 ⊢
  exact ⟨by omega, by omega, PySem.W.str_of_cps (by rw [h3])⟩
def srt (l : List Pt) : List Pt := l.mergeSort (PySem.W.dataLe false Pt.p)
theorem srt_perm (l : List Pt) : (srt l).Perm l := List.mergeSort_perm _ _
theorem srt_congr {l m : List Pt} (h : l.Perm m) : srt l = srt m := sort_congr2 pt_inj h

def stS (cs : List Nat) : Str := ⟨cs.toArray⟩
def singD (c : Nat) : D := .str ⟨#[c]⟩
theorem st_length (cs : List Nat) : (stS cs).length = cs.length := by
  show cs.toArray.size = _
  simp
theorem st_append (a b : List Nat) : stS a ++ stS b = stS (a ++ b) := by
  show (⟨a.toArray ++ b.toArray⟩ : Str) = ⟨(a ++ b).toArray⟩
  simp

theorem strs_sing (l : List Nat) : strsOf (l.map singD) = some (l.map fun c => (⟨#[c]⟩ : Str)) := by
  induction l with
  | nil => rfl
  | cons x xs ih =>
    rw [List.map_cons, List.map_cons]
    show (strsOf _).map _ = _
    rw [ih]
    rfl
theorem glued_sing (cs : List Nat) : Txt.join "" (cs.map fun c => (⟨#[c]⟩ : Str)) = stS cs := by
  have key : ∀ cs : List Nat, Str.join "" (cs.map fun c => (⟨#[c]⟩ : Str)) = stS cs := by
    intro cs
    induction cs with
    | nil => rfl
    | cons x cs ih =>
      cases cs with
      | nil => rfl
      | cons y cs =>
        show (⟨#[x]⟩ : Str) ++ "" ++ Str.join "" ((y :: cs).map fun c => (⟨#[c]⟩ : Str)) = _
        rw [ih]
        show (⟨#[x] ++ #[] ++ (y :: cs).toArray⟩ : Str) = ⟨(x :: y :: cs).toArray⟩
        simp
  rw [← key]
  exact PySem.StrLaws.glued_eq_join _ _
theorem sum_ones (l : List Nat) : ((l.map fun c => (⟨#[c]⟩ : Str)).map (·.length)).sum = l.length := by
  induction l with
  | nil => rfl
  | cons x l ih =>
    rw [List.map_cons, List.map_cons, List.sum_cons, ih, List.length_cons]
    show 1 + _ = _
    omega
theorem toPs_pts (f : Nat → Option PyData) (l : List Pt) : toPsW f (l.map Pt.d) = some (l.map Pt.p) := by
  induction l with
  | nil => rfl
  | cons x l ih => simp [toPsW, toPW, ih, Pt.p]
theorem sort_pts {S : Sto} {l : List Pt} {Q : List D → Sto → Prop} (h : Q ((srt l).map Pt.d) S) : W (sortD S (l.map Pt.d)) Q := by
  have e : toPs S (l.map Pt.d) = some (l.map Pt.p) := toPs_pts _ _
  unfold sortD
  rw [e]
  have es : (l.map Pt.d).mergeSort (PySem.W.dataLe false fun d => (toP S d).getD .none) = (srt l).map Pt.d := by
    refine (PySem.W.sort_maps Pt.d fun a _ b _ => ?_).symm
    have ep : ∀ p : Pt, (toP S p.d).getD .none = p.p := fun p => by
      have : toP S p.d = some p.p := by simp [toP, toPW, toPsW, Pt.p]
      rw [this]
      rfl
    rw [PySem.W.dataLe_eq, PySem.W.dataLe_eq]
    simp only [ep]
  rw [es]
  refine w_ask ⟨fun a ha b hb => ?_, .inl fun a ha => ?_, fun a ha => ?_⟩ (w_ok h)
  · obtain ⟨x, _, rfl⟩ := List.mem_map.mp ha
    obtain ⟨y, _, rfl⟩ := List.mem_map.mp hb
    simp [PySem.W.alike, PySem.W.alikeAll, Pt.p]
  · obtain ⟨x, _, rfl⟩ := List.mem_map.mp ha
    exact ⟨_, _, rfl⟩
  · obtain ⟨x, _, rfl⟩ := List.mem_map.mp ha
    simp [PyData.depth, PyData.depthAll, Pt.p]
theorem below_pts (l : List Pt) {n : Nat} : below n (.tup (l.map Pt.d)) := by
  show belows n _
  refine belows_iff.mpr fun x hx => ?_
  obtain ⟨p, _, rfl⟩ := List.mem_map.mp hx
  simp [below, belows]

theorem rgD_0 (j : Nat) : rgD 0 (j : Int) = (List.range' 0 j).map natD := by
  rw [rgD0, ← List.range_eq_range']
theorem rg'_cons {c m : Nat} : List.range' c (m + 1) = c :: List.range' (c + 1) m := rfl

def Lt (x : D) : Prop := ∃ c : Nat, c < 1114112 ∧ x = singD c
section
variable {k : Nat} {R : Sto} {Q : D → Sto → Prop} {d : DS} {m : Int}
theorem draw_ (h1 : 0 < m) (h2 : m < 1073741824) (h : ∀ (y : Int) (d' : DS), 0 ≤ y → y < m → Q (.int y) (d'.st R)) : W (orc T (k + 1) n__law_draw [.ref 1, .int m] (d.st R)) Q := draw_w rfl h1 h2 h
theorem pick_w {b : Nat} {row : List D} (h0 : 0 < row.length) (hl : row.length < 1000) (hb : R[b]? = some (.lst row)) (h : ∀ x ∈ row, ∀ d' : DS, Q x (d'.st R)) : W (orc T (k + 2) n__law_pick [.ref 1, .ref (b + 2)] (d.st R)) Q := by
  refine orc_w (ρ := [some (.ref 1), some (.ref (b + 2))]) rfl rfl rfl ?_
  show W (evSs _ b__law_pick _ _) _
  simp only [b__law_pick]
  have hq : ∀ d : DS, (d.st R)[b + 2]? = some (.lst row) := fun d => hb
  have g1 : sqOf (d.st R) (.val (.ref (b + 2))) = some row := by simp only [sqOf, lsOf, hq]
  mul_fits
  refine draw_ (by omega) (by omega) fun y d1 y0 y1 => ?_
  have hy : y.toNat < row.length := by omega
  have k1 : atI row y = some (row[y.toNat]) := by
    unfold atI ixN
    rw [if_pos y0, if_pos y1]
    simp [hy]
  refine v_idx (hq d1) k1 ?_
  mul_fits
  rw [gc_same (by rfl)]
  mul_fits
  exact h _ (List.getElem_mem hy) _
theorem st_mid {o : Ob} {g : Sto} : (d.st (R ++ [o] ++ g))[R.length + 2]? = some o := by rw [st_get]; exact get_mid R g o
theorem st_set_mid {o p : Ob} {g : Sto} : (d.st (R ++ [o] ++ g)).set (R.length + 2) p = d.st (R ++ [p] ++ g) := by
  show DS.st d _ = _
  unfold DS.st
  have := set_mid R g o p
  simp only [List.set_cons_succ, this]
theorem st_set (d : DS) {R : Sto} {i : Nat} {p : Ob} : (d.st R).set (i + 2) p = d.st (R.set i p) := by
  unfold DS.st
  simp only [List.set_cons_succ]
theorem erase_perm : ∀ (l : List D) (i : Nat) (h : i < l.length), (l[i] :: l.eraseIdx i).Perm l
  | a :: l, 0, _ => .refl _
  | a :: l, i + 1, h => by
    have h' : i < l.length := by simpa using h
    exact (List.Perm.swap a l[i] _).trans ((erase_perm l i h').cons a)
theorem shuffled_w {b : Nat} {row : List D} (hl : row.length < 1000) (hb : R[b]? = some (.lst row)) (h : ∀ (got : List D) (g : Sto) (d' : DS), got.Perm row → Q (.ref (R.length + g.length + 2)) (d'.st (R ++ (g ++ [.lst got])))) : W (orc T (k + 2) n__law_shuffled [.ref 1, .ref (b + 2)] (d.st R)) Q := by
  refine orc_w (ρ := [some (.ref 1), some (.ref (b + 2)), none, none, none]) rfl rfl rfl ?_
  show W (evSs _ b__law_shuffled _ _) _
  simp only [b__law_shuffled]
  have hq : (d.st R)[b + 2]? = some (.lst row) := hb
  have g1 : lstOf (d.st R) (.val (.ref (b + 2))) = some row := by simp only [lstOf, sqOf, lsOf, hq]
  mul_fits
  try (refine w_may g1 ?_)
  mul_fits
  simp only [st_len, st_app]
  have hr1 : (d.st (R ++ [.lst row] ++ [.lst []]))[R.length + 2]? = some (.lst row) := st_mid
  have g2 : sqOf (d.st (R ++ [.lst row] ++ [.lst []])) (.val (.ref (R.length + 2))) = some row := by simp only [sqOf, lsOf, hr1]
  mul_fits
  rw [rgD0]
  refine loopS_w (fun ds ρ S' => ∃ (ks : List Nat) (left got : List D) (o4 : Option D) (d' : DS), ds = ks.map natD ∧ S' = d'.st (R ++ [.lst left] ++ [.lst got]) ∧ ρ = [some (.ref 1), some (.ref (b + 2)), some (.ref (R.length + 2)), some (.ref ((R ++ [Ob.lst row]).length + 2)), o4] ∧ left.length = ks.length ∧ (got ++ left).Perm row) ?_ ?_ _ _ _ ⟨List.range row.length, row, [], _, d, rfl, rfl, rfl, by simp, .refl _⟩
  · rintro e ds ρ S' ⟨ks, left, got, o4, d', hds, rfl, rfl, h1, h2⟩
    refine ⟨trivial, ?_⟩
    cases ks with
    | nil => exact absurd hds (by simp)
    | cons q ks =>
    rw [List.map_cons, List.cons.injEq] at hds
    obtain ⟨rfl, rfl⟩ := hds
    rw [List.length_cons] at h1
    have hgl : got.length + left.length = row.length := by rw [← List.length_append]; exact h2.length_eq
    simp only [b__law_shuffled_1]
    have k1 : ∀ d : DS, (d.st (R ++ [.lst left] ++ [.lst got]))[R.length + 2]? = some (.lst left) := fun d => st_mid
    have k2 : ∀ (d : DS) l, (d.st (R ++ [.lst l] ++ [.lst got]))[(R ++ [Ob.lst row]).length + 2]? = some (.lst got) := fun d l => by rw [st_get]; simp
    have g3 : sqOf (d'.st (R ++ [.lst left] ++ [.lst got])) (.val (.ref (R.length + 2))) = some left := by simp only [sqOf, lsOf, k1]
    mul_fits
    refine w_withL (k2 _ _) ?_
    mul_fits
    refine w_withL (k1 _) ?_
    mul_fits
    refine draw_ (m := (left.length : Int)) (by omega) (by omega) fun y d1 y0 y1 => ?_
    have hy : y.toNat < left.length := by omega
    have yb : -(2 ^ 63) ≤ y ∧ y < 2 ^ 63 := by constructor <;> omega
    refine v_popAt (k := y.toNat) (d := left[y.toNat]) (k1 d1) yb ?_ (by simp [hy]) ?_
    · have e0 : ¬ y < 0 := by omega
      show (if 0 ≤ (if y < 0 then y + (left.length : Int) else y) && decide ((if y < 0 then y + (left.length : Int) else y) < (left.length : Int)) then some (if y < 0 then y + (left.length : Int) else y).toNat else none) = some y.toNat
      rw [if_neg e0]
      simp [y0, y1]
    rw [st_set_mid]
    refine v_app (k2 _ _) (le_size (by omega)) ?_
    have se : (d1.st (R ++ [.lst (left.eraseIdx y.toNat)] ++ [.lst got])).set ((R ++ [Ob.lst row]).length + 2) (.lst (got ++ [left[y.toNat]])) = d1.st (R ++ [.lst (left.eraseIdx y.toNat)] ++ [.lst (got ++ [left[y.toNat]])]) := by
      rw [st_set]
      have := set_end (R ++ [Ob.lst (left.eraseIdx y.toNat)]) (.lst got) (.lst (got ++ [left[y.toNat]]))
      have e2 : (R ++ [Ob.lst row]).length = (R ++ [Ob.lst (left.eraseIdx y.toNat)]).length := by simp
      rw [e2, this]
    rw [se]
    mul_fits
    refine ⟨_, .inl rfl, ks, left.eraseIdx y.toNat, got ++ [left[y.toNat]], _, d1, rfl, rfl, rfl, ?_, ?_⟩
    · rw [List.length_eraseIdx, if_pos hy]
      omega
    · rw [List.append_assoc]
      refine List.Perm.trans ?_ h2
      refine List.Perm.append_left _ ?_
      exact erase_perm _ _ hy
  · rintro ρ S' ⟨ks, left, got, o4, d', hds, rfl, rfl, h1, h2⟩
    refine ⟨trivial, ?_⟩
    cases ks with
    | cons q ks => exact absurd hds (by simp)
    | nil =>
    have hl0 : left = [] := List.eq_nil_of_length_eq_zero h1
    subst hl0
    rw [List.append_nil] at h2
    mul_fits
    simp only [b__law_shuffled_2]
    mul_fits
    rw [gc_out (by simp [below, st_len])]
    have := h got [.lst []] d' h2
    rw [List.append_assoc, show (R ++ [Ob.lst row]).length + 2 = R.length + [Ob.lst ([] : List D)].length + 2 by simp]
    exact w_ok this
theorem cut_take {l : List D} {m : Nat} : PQ.cutD l none (some (m : Int)) = l.take m := by
  unfold PQ.cutD
  simp only [HT.sIx]
  rw [if_neg (by omega), List.drop_zero, Int.toNat_natCast, Nat.sub_zero]
  by_cases h : m ≤ l.length
  · rw [Nat.min_eq_left h]
  · rw [Nat.min_eq_right (by omega), List.take_length, List.take_of_length_le (by omega)]
theorem some_w {b m : Nat} {row : List D} (hl : row.length < 1000) (hb : R[b]? = some (.lst row)) (h : ∀ (full : List D) (g : Sto) (d' : DS), full.Perm row → Q (.ref (R.length + g.length + 2)) (d'.st (R ++ (g ++ [.lst (full.take m)])))) : W (orc T (k + 3) n__law_some [.ref 1, .ref (b + 2), .int (m : Int)] (d.st R)) Q := by
  refine orc_w (ρ := [some (.ref 1), some (.ref (b + 2)), some (.int (m : Int))]) rfl rfl rfl ?_
  show W (evSs _ b__law_some _ _) _
  simp only [b__law_some]
  mul_fits
  refine shuffled_w hl hb fun got g d' h1 => ?_
  have k1 : (d'.st (R ++ (g ++ [.lst got])))[R.length + g.length + 2]? = some (.lst got) := by
    rw [st_get, ← List.append_assoc, show R.length + g.length = (R ++ g).length by simp]
    exact get_end _ _
  mul_fits
  rw [cut_take, st_len, st_app, gc_out (by simp [below, st_len])]
  have := h got (g ++ [.lst got]) d' h1
  refine w_ok ?_
  have e1 : R ++ (g ++ [Ob.lst got]) ++ [Ob.lst (got.take m)] = R ++ (g ++ [Ob.lst got] ++ [Ob.lst (got.take m)]) := by simp
  have e2 : (R ++ (g ++ [Ob.lst got])).length + 2 = R.length + (g ++ [Ob.lst got]).length + 2 := by simp
  rw [e1, e2]
  exact this

theorem gc_st2 {d d' : DS} {R g : Sto} {e : D} {Q : D → Sto → Prop} (hb : below (R.length + 2) e) (h : Q e (d'.st R)) : W (gc (d.st R) e (d'.st (R ++ g))) Q := by
  unfold gc
  have sf : Safe (d.st R) e (d'.st (R ++ g)) := by
    refine ⟨hb, by simp [st_len], fun i o hi e2 => ?_⟩
    match i, hi, e2 with
    | 0, _, e2 =>
      right
      have : Ob.lst (d'.cells.map .int) = o := by simpa [DS.st] using e2
      subst this
      refine belows_iff.mpr fun x hx => ?_
      obtain ⟨q, _, rfl⟩ := List.mem_map.mp hx
      trivial
    | 1, _, e2 =>
      right
      have : Ob.lst [.ref 0, .int d'.p, .int d'.r, .int d'.s] = o := by simpa [DS.st] using e2
      subst this
      refine belows_iff.mpr fun x hx => ?_
      simp at hx
      rcases hx with rfl | rfl | rfl | rfl
      · show 0 < _
        simp [st_len]
      · trivial
      · trivial
      · trivial
    | i + 2, hi, e2 =>
      left
      rw [st_get] at e2 ⊢
      rw [st_len] at hi
      rwa [List.getElem?_append_left (by omega)] at e2
  rw [if_pos sf, W_ok]
  have : (d'.st (R ++ g)).take (d.st R).length = d'.st R := by
    show List.take (R.length + 2) (_ :: _ :: (R ++ g)) = _
    rw [List.take_succ_cons, List.take_succ_cons, List.take_left' rfl]
    rfl
  rw [this]
  exact h

end
section
variable {k : Nat} {R : Sto} {Q : D → Sto → Prop} {d : DS} {m : Int}
theorem toPs_ints (f : Nat → Option PyData) (l : List Int) : toPsW f (l.map D.int) = some (l.map .int) := by
  induction l with
  | nil => rfl
  | cons x l ih => simp [toPsW, toPW, ih]
theorem sort_ints {S : Sto} {l : List Int} {Q : List D → Sto → Prop} (h : ∀ l' : List D, l'.Perm (l.map D.int) → Q l' S) : W (sortD S (l.map D.int)) Q := by
  have e : toPs S (l.map D.int) = some (l.map .int) := toPs_ints _ _
  unfold sortD
  rw [e]
  refine w_ask ⟨fun a ha b hb => ?_, .inr fun a ha => ?_, fun a ha => ?_⟩ (w_ok (h _ (List.mergeSort_perm _ _)))
  · obtain ⟨x, _, rfl⟩ := List.mem_map.mp ha
    obtain ⟨y, _, rfl⟩ := List.mem_map.mp hb
    simp [PySem.W.alike]
  · obtain ⟨x, _, rfl⟩ := List.mem_map.mp ha
    exact ⟨by simp, by simp⟩
  · obtain ⟨x, _, rfl⟩ := List.mem_map.mp ha
    simp [PyData.depth]
theorem get_g {g : Sto} {o : Ob} : (d.st (R ++ (g ++ [o])))[R.length + g.length + 2]? = some o := by
  rw [st_get, ← List.append_assoc, show R.length + g.length = (R ++ g).length by simp]
  exact get_end _ _
/-- a tie within spots -/
structure PtIn (n : Nat) (p : Pt) : Prop where
  one : p.one < n
  other : p.other < n
  st : ∃ c : Nat, c < 1114112 ∧ p.strand = ⟨#[c]⟩
theorem ties_w {b n t : Nat} {row : List D} (hn : n ≤ 900) (ht : t ≤ 60) (h0 : 0 < row.length) (hl : row.length < 1000) (hb : R[b]? = some (.lst row)) (hlt : ∀ x ∈ row, Lt x) (h : ∀ (pt : List Pt) (d' : DS), (∀ p ∈ pt, PtIn n p) → pt.length ≤ t → srt pt = pt → Q (.tup (pt.map Pt.d)) (d'.st R)) : W (orc T (k + 4) n__law_ties [.ref 1, .int (n : Int), .int (t : Int), .ref (b + 2)] (d.st R)) Q := by
  refine orc_w (ρ := [some (.ref 1), some (.int (n : Int)), some (.int (t : Int)), some (.ref (b + 2)), none, none, none]) rfl rfl rfl ?_
  show W (evSs _ b__law_ties _ _) _
  simp only [b__law_ties]
  mul_fits
  simp only [st_len, st_app]
  have fin : ∀ (d' : DS) (pt : List Pt) (g : Sto) (o5 o6 : Option D), (∀ p ∈ pt, PtIn n p) → pt.length ≤ t → W (evSs (orc T (k + 3)) b__law_ties_2 [some (.ref 1), some (.int (n : Int)), some (.int (t : Int)), some (.ref (b + 2)), some (.ref (R.length + 2)), o5, o6] (d'.st (R ++ [.lst (pt.map Pt.d)] ++ g))) fun fl S1 => W (retK fl S1) fun x S' => W (gc (d.st R) x S') Q := by
    intro d' pt g o5 o6 hp hpl
    simp only [b__law_ties_2]
    have k1 : (d'.st (R ++ [.lst (pt.map Pt.d)] ++ g))[R.length + 2]? = some (.lst (pt.map Pt.d)) := st_mid
    have ls : lsOf (d'.st (R ++ [.lst (pt.map Pt.d)] ++ g)) (.val (.ref (R.length + 2))) = some (pt.map Pt.d) := by simp only [lsOf, k1]
    mul_fits
    try (refine w_may ls ?_)
    refine sort_pts ?_
    mul_fits
    rw [List.append_assoc]
    refine gc_st2 (below_pts _) ?_
    exact h _ d' (fun p hp' => hp p ((srt_perm _).mem_iff.mp hp')) (by rw [(srt_perm _).length_eq]; exact hpl) (srt_congr (srt_perm _))
  mul_fits
  refine w_ifd (fun c => ?_) fun c => ?_
  · have hn2 : 2 ≤ n := by omega
    mul_fits
    rw [rgD0]
    refine loopS_w (fun ds ρ S' => ∃ (ks : List Nat) (pt : List Pt) (g : Sto) (o5 o6 : Option D) (d' : DS), ds = ks.map natD ∧ S' = d'.st (R ++ [.lst (pt.map Pt.d)] ++ g) ∧ ρ = [some (.ref 1), some (.int (n : Int)), some (.int (t : Int)), some (.ref (b + 2)), some (.ref (R.length + 2)), o5, o6] ∧ pt.length + ks.length = t ∧ (∀ p ∈ pt, PtIn n p)) ?_ ?_ _ _ _ ⟨List.range t, [], [], _, _, d, rfl, by simp, rfl, by simp, by simp⟩
    · rintro e ds ρ S' ⟨ks, pt, g, o5, o6, d', hds, rfl, rfl, h1, h2⟩
      refine ⟨trivial, ?_⟩
      cases ks with
      | nil => exact absurd hds (by simp)
      | cons q ks =>
      rw [List.map_cons, List.cons.injEq] at hds
      obtain ⟨rfl, rfl⟩ := hds
      rw [List.length_cons] at h1
      simp only [b__law_ties_1]
      have rgok : RgOk 0 (n : Int) := by unfold RgOk; omega
      mul_fits
      simp only [st_len, st_app]
      have hs : (rgD 0 (n : Int)).length = n := by rw [rgD0]; simp
      refine some_w (b := (R ++ [Ob.lst (pt.map Pt.d)] ++ g).length) (m := 2) (row := rgD 0 (n : Int)) (by rw [hs]; omega) (get_end _ _) fun full g2 d2 hp2 => ?_
      have a1 : ∀ x ∈ full.take 2, x ∈ rgD 0 (n : Int) := fun x hx => hp2.mem_iff.mp (List.mem_of_mem_take hx)
      have a3 : (full.take 2).length = 2 := by
        have := hp2.length_eq
        rw [List.length_take]
        omega
      generalize full.take 2 = got at a1 a3 ⊢
      obtain ⟨x, y, rfl⟩ : ∃ x y, got = [x, y] := by
        match got, a3 with
        | [x, y], _ => exact ⟨x, y, rfl⟩
      have hnat : ∀ z ∈ [x, y], ∃ q : Nat, z = natD q ∧ q < n := fun z hz => by
        have := a1 z hz
        rw [rgD0] at this
        obtain ⟨q, hq, rfl⟩ := List.mem_map.mp this
        exact ⟨q, rfl, List.mem_range.mp hq⟩
      obtain ⟨x, rfl, hx⟩ := hnat x (by simp)
      obtain ⟨y, rfl, hy⟩ := hnat y (by simp)
      have gg := get_g (R := R ++ [Ob.lst (pt.map Pt.d)] ++ g ++ [Ob.lst (rgD 0 (n : Int))]) (d := d2) (g := g2) (o := .lst [natD x, natD y])
      have ls := show lsOf (d2.st (R ++ [Ob.lst (pt.map Pt.d)] ++ g ++ [Ob.lst (rgD 0 (n : Int))] ++ (g2 ++ [Ob.lst [natD x, natD y]]))) (.val (.ref ((R ++ [Ob.lst (pt.map Pt.d)] ++ g ++ [Ob.lst (rgD 0 (n : Int))]).length + g2.length + 2))) = some [natD x, natD y] by simp only [lsOf, gg]
      mul_fits
      try (refine w_may ls ?_)
      refine sort_ints (l := [(x : Int), (y : Int)]) fun l' hp => ?_
      have hl' : l'.length = 2 := hp.length_eq
      obtain ⟨u, v, rfl⟩ : ∃ u v, l' = [u, v] := by
        match l', hl' with
        | [x, y], _ => exact ⟨x, y, rfl⟩
      have hnat2 : ∀ z ∈ [u, v], ∃ q : Nat, z = natD q ∧ q < n := fun z hz => by
        have := hp.mem_iff.mp hz
        simp at this
        rcases this with rfl | rfl
        · exact ⟨x, rfl, hx⟩
        · exact ⟨y, rfl, hy⟩
      obtain ⟨u, rfl, hu⟩ := hnat2 u (by simp)
      obtain ⟨v, rfl, hv⟩ := hnat2 v (by simp)
      mul_fits
      simp only [st_len, st_app]
      have ea : R ++ [Ob.lst (pt.map Pt.d)] ++ g ++ [Ob.lst (rgD 0 (n : Int))] ++ (g2 ++ [Ob.lst [natD x, natD y]]) ++ [Ob.lst [natD u, natD v]] = R ++ [Ob.lst (pt.map Pt.d)] ++ (g ++ [Ob.lst (rgD 0 (n : Int))] ++ (g2 ++ [Ob.lst [natD x, natD y]]) ++ [Ob.lst [natD u, natD v]]) := by simp
      have ge := get_end (R ++ [Ob.lst (pt.map Pt.d)] ++ g ++ [Ob.lst (rgD 0 (n : Int))] ++ (g2 ++ [Ob.lst [natD x, natD y]])) (Ob.lst [natD u, natD v])
      rw [ea] at ge ⊢
      generalize (R ++ [Ob.lst (pt.map Pt.d)] ++ g ++ [Ob.lst (rgD 0 (n : Int))] ++ (g2 ++ [Ob.lst [natD x, natD y]])).length = at_ at ge ⊢
      generalize (g ++ [Ob.lst (rgD 0 (n : Int))] ++ (g2 ++ [Ob.lst [natD x, natD y]]) ++ [Ob.lst [natD u, natD v]]) = G at ge ⊢
      have k1 : ∀ (d : DS) l, (d.st (R ++ [.lst l] ++ G))[R.length + 2]? = some (.lst l) := fun d l => st_mid
      have k2 : ∀ (d : DS), (d.st (R ++ [.lst (pt.map Pt.d)] ++ G))[at_ + 2]? = some (.lst [natD u, natD v]) := fun d => by rw [st_get]; exact ge
      mul_fits
      refine w_withL (k1 _ _) ?_
      mul_fits
      refine pick_w h0 hl (get_pre (get_pre hb)) fun z hz d3 => ?_
      obtain ⟨c, hc, rfl⟩ := hlt z hz
      mul_fits
      refine v_app (k1 _ _) (by rw [List.length_map]; exact le_size (by omega)) ?_
      rw [st_set_mid]
      mul_fits
      refine ⟨_, .inl rfl, ks, pt ++ [⟨u, v, ⟨#[c]⟩⟩], G, _, _, d3, rfl, by rw [List.map_append]; rfl, rfl, by simp; omega, fun p hp => ?_⟩
      rcases List.mem_append.mp hp with hp | hp
      · exact h2 p hp
      · simp at hp
        subst hp
        exact ⟨hu, hv, c, hc, rfl⟩
    · rintro ρ S' ⟨ks, pt, g, o5, o6, d', hds, rfl, rfl, h1, h2⟩
      refine ⟨trivial, ?_⟩
      cases ks with
      | cons q ks => exact absurd hds (by simp)
      | nil =>
      mul_fits
      exact fin d' pt g _ _ h2 (by simp at h1; omega)
  · mul_fits
    have := fin d [] [] none none (by simp) (by simp)
    simpa using this
theorem marks_w {b n : Nat} {row : List D} (hn : n ≤ 900) (h0 : 0 < row.length) (hl : row.length < 1000) (hb : R[b]? = some (.lst row)) (hlt : ∀ x ∈ row, Lt x) (h : ∀ (ms : List Nat) (d' : DS), ms.length = n → (∀ c ∈ ms, c < 1114112) → Q (.str (stS ms)) (d'.st R)) : W (orc T (k + 3) n__law_marks [.ref 1, .int (n : Int), .ref (b + 2)] (d.st R)) Q := by
  refine orc_w (ρ := [some (.ref 1), some (.int (n : Int)), some (.ref (b + 2)), none]) rfl rfl rfl ?_
  show W (evSs _ b__law_marks _ _) _
  simp only [b__law_marks]
  mul_fits
  refine ⟨by show (rgD 0 _).length ≤ sizeLine; rw [rgD0]; simp; exact le_size (by omega), ?_⟩
  refine loopQ_w (fun ds r S' => ∃ (l : List Nat) (d' : DS), r = l.map singD ∧ S' = d'.st R ∧ l.length + ds.length = n ∧ ∀ c ∈ l, c < 1114112) ?_ ?_ _ _ ⟨[], d, rfl, rfl, by rw [rgD0]; simp, by simp⟩
  · rintro e ds r S' ⟨l, d', rfl, rfl, h1, h2⟩
    refine ⟨trivial, ?_⟩
    mul_fits
    refine pick_w h0 hl hb fun x hx d2 => ?_
    obtain ⟨c, hc, rfl⟩ := hlt x hx
    mul_fits
    refine ⟨l ++ [c], d2, by simp, rfl, by simp at h1 ⊢; omega, fun x hx => ?_⟩
    rcases List.mem_append.mp hx with hx | hx
    · exact h2 x hx
    · simp at hx
      subst hx
      exact hc
  · rintro r S' ⟨l, d', rfl, rfl, h1, h2⟩
    refine ⟨trivial, ?_⟩
    have hll : l.length = n := by simpa using h1
    mul_fits
    try (refine w_may (strs_sing _) ?_)
    refine w_ask ?_ ?_
    · rw [sum_ones]
      have : Str.length "" = 0 := by decide
      rw [this]
      omega
    rw [glued_sing]
    mul_fits
    rw [gc_same (by rfl)]
    exact w_ok (h l d' hll h2)
theorem perm_of_map {α : Type} {f : α → D} : ∀ {l : List D} {m : List α}, l.Perm (m.map f) → ∃ l' : List α, l'.Perm m ∧ l = l'.map f := by
  intro l m h
  generalize hm : m.map f = k at h
  induction h generalizing m with
  | nil => exact ⟨[], by rw [List.map_eq_nil_iff.mp hm], rfl⟩
  | cons x _ ih =>
    cases m with
    | nil => cases hm
    | cons y m =>
      rw [List.map_cons, List.cons.injEq] at hm
      obtain ⟨l', h1, h2⟩ := ih hm.2
      exact ⟨y :: l', h1.cons y, by rw [List.map_cons, hm.1, h2]⟩
  | swap x y l =>
    match m, hm with
    | a :: b :: m, hm =>
      simp only [List.map_cons, List.cons.injEq] at hm
      obtain ⟨rfl, rfl, rfl⟩ := hm
      exact ⟨b :: a :: m, List.Perm.swap _ _ _, rfl⟩
  | trans _ _ ih1 ih2 =>
    obtain ⟨l2, h1, rfl⟩ := ih2 hm
    obtain ⟨l1, h3, rfl⟩ := ih1 rfl
    exact ⟨l1, h3.trans h1, rfl⟩
/-- a name: a letter, some signs -/
def hd (s : Str) : Option Nat := s.cps.toList.head?
end
structure Sl where
  nm : Str
  pl : List Nat
abbrev Sl.d (s : Sl) : D := .tup [.str s.nm, .tup (s.pl.map natD)]
structure Rl where
  nm : Str
  ms : List Nat
  ts : List Pt
  sl : List Sl
abbrev Rl.d (r : Rl) : D := .tup [.str r.nm, .str (stS r.ms), .tup (r.ts.map Pt.d), .tup (r.sl.map Sl.d)]
abbrev prD (p : Str × Nat) : D := .tup [.str p.1, natD p.2]
structure Bk where
  top : Str
  nms : List (Str × Nat)
  rls : List Rl
abbrev Bk.d (b : Bk) : D := .tup [.str b.top, .tup (b.nms.map prD), .tup (b.rls.map Rl.d)]
theorem pd_nats (l : List Nat) : Pd (.tup (l.map natD)) := pd_map fun _ _ => trivial
theorem pd_sl (s : Sl) : Pd s.d := ⟨trivial, pd_nats _, trivial⟩
theorem pd_rl (r : Rl) : Pd r.d := ⟨trivial, trivial, below_pts _, pd_map fun s _ => pd_sl s, trivial⟩
theorem pd_pr (p : Str × Nat) : Pd (prD p) := ⟨trivial, trivial, trivial⟩
theorem pd_bk (b : Bk) : Pd b.d := ⟨trivial, pd_map fun p _ => pd_pr p, pd_map fun r _ => pd_rl r, trivial⟩
/-- a rule as it is drawn -/
structure RlOk (r : Rl) (nm : Str) (ar : Nat) (used : List (Str × Nat)) (inner : Nat) : Prop where
  nm : r.nm = nm
  msl : r.ms.length ≤ max inner 3
  sl : All2 (fun (p : Str × Nat) (s : Sl) => s.nm = p.1 ∧ s.pl.length = p.2 ∧ s.pl.Nodup ∧ ∀ x ∈ s.pl, x < ar + r.ms.length) used r.sl
  ts : ∀ p ∈ r.ts, PtIn (ar + r.ms.length) p
  tl : r.ts.length ≤ 60
  ss : srt r.ts = r.ts
  mc : ∀ c ∈ r.ms, c < 1114112
/-- a row of letters of the store -/
structure Row (R : Sto) (b : Nat) : Prop where
  ex : ∃ row : List D, 0 < row.length ∧ row.length < 1000 ∧ R[b]? = some (.lst row) ∧ ∀ x ∈ row, Lt x
theorem Row.pre {R g : Sto} {b : Nat} (h : Row R b) : Row (R ++ g) b := by
  obtain ⟨row, h1, h2, h3, h4⟩ := h.ex
  exact ⟨row, h1, h2, get_pre h3, h4⟩
section
variable {k : Nat} {R : Sto} {Q : D → Sto → Prop} {d : DS} {m : Int}
theorem rule_w {nm : Str} {ar inner t bs b2 b3 : Nat} {used : List (Str × Nat)} (har : ar ≤ 3) (hin : inner ≤ 500) (ht : t ≤ 60) (hu : ∀ p ∈ used, p.2 ≤ 3) (hul : used.length ≤ 10) (hbs : R[bs]? = some (.lst (used.map prD))) (hm : Row R b2) (hs : Row R b3)
    (h : ∀ (r : Rl) (d' : DS), RlOk r nm ar used inner → Q r.d (d'.st R)) : W (orc T (k + 5) n__law_rule [.ref 1, prD (nm, ar), .ref (bs + 2), natD inner, natD t, .ref (b2 + 2), .ref (b3 + 2)] (d.st R)) Q := by
  refine orc_w (ρ := [some (.ref 1), some (prD (nm, ar)), some (.ref (bs + 2)), some (natD inner), some (natD t), some (.ref (b2 + 2)), some (.ref (b3 + 2)), none, none, none, none]) rfl rfl rfl ?_
  show W (evSs _ b__law_rule _ _) _
  simp only [b__law_rule]
  have k1 : ∀ (d : DS) (g : Sto), (d.st (R ++ g))[bs + 2]? = some (.lst (used.map prD)) := fun d g => by rw [st_get]; exact get_pre hbs
  have it : ∀ (d : DS) (g : Sto), itOf (.val (.ref (bs + 2))) (d.st (R ++ g)) = some ⟨used.map prD, some (bs + 2)⟩ := fun d g => by
    simp only [itOf, sqOf, lsOf, k1, Option.map_some]
  have it0 := it d []
  have k10 := k1 d []
  rw [List.append_nil] at it0 k10
  have zl : (used.map prD).length ≤ sizeLine := by rw [List.length_map]; exact le_size (by omega)
  mul_fits
  try (refine w_may it0 ?_)
  mul_fits
  refine loopQ_m prD (fun p => .int ((p.2 : Int) - (ar : Int))) (fun S => S = d.st R) used (fun p hp S e => ?_) (fun S e => ?_) _ rfl
  · subst e
    refine ⟨k10, ?_⟩
    mul_fits
    exact ⟨rfl, rfl⟩
  subst e
  refine ⟨k10, ?_⟩
  mul_fits
  have eints : ([natD inner] ++ used.map fun p => D.int ((p.2 : Int) - (ar : Int))) = ((inner : Int) :: used.map fun p => (p.2 : Int) - (ar : Int)).map D.int := by simp
  refine w_ask (by rw [List.length_map]; exact le_size (by simp; omega)) ?_
  rw [eints]
  mul_fits
  obtain ⟨mx, hmx⟩ : ∃ mx, greatest ((inner : Int) :: used.map fun p => (p.2 : Int) - (ar : Int)) = some mx := by
    cases e : greatest ((inner : Int) :: used.map fun p => (p.2 : Int) - (ar : Int)) with
    | some v => exact ⟨v, rfl⟩
    | none =>
      have : ∀ (x : Int) (l : List Int), greatest (x :: l) ≠ none := by
        intro x l
        induction l generalizing x with
        | nil => intro z; cases z
        | cons y l ih =>
          intro z
          have z : (greatest (y :: l)).map _ = none := z
          rw [Option.map_eq_none_iff] at z
          exact ih y z
      exact absurd e (this _ _)
  obtain ⟨m1, m2⟩ := greatest_spec hmx
  have m0 := m2 (inner : Int) (by simp)
  have m3 : mx ≤ ((max inner 3 : Nat) : Int) := by
    rcases List.mem_cons.mp m1 with e | e
    · omega
    · obtain ⟨p, hp, e⟩ := List.mem_map.mp e
      have := hu p hp
      omega
  have m4 : ∀ p ∈ used, (p.2 : Int) - (ar : Int) ≤ mx := fun p hp => m2 _ (List.mem_cons_of_mem _ (List.mem_map.mpr ⟨p, hp, rfl⟩))
  obtain ⟨own, rfl⟩ := Int.eq_ofNat_of_zero_le (by omega : 0 ≤ mx)
  refine v_max (show lsOf _ (.own _) = some _ from rfl) (ints_map _) hmx ?_
  mul_fits
  try (refine w_may it0 ?_)
  mul_fits
  have e0 : ((ar : Int) + (own : Int)) = ((ar + own : Nat) : Int) := by omega
  rw [e0]
  refine loopQ_e prD Sl.d (fun (p : Str × Nat) (s : Sl) => s.nm = p.1 ∧ s.pl.length = p.2 ∧ s.pl.Nodup ∧ ∀ x ∈ s.pl, x < ar + own) (fun S => ∃ d' g, S = d'.st (R ++ g)) used (fun p hp S e => ?_) (fun sl S a e => ?_) _ ⟨d, [], by rw [List.append_nil]⟩
  · obtain ⟨d', g, rfl⟩ := e
    refine ⟨k1 d' g, ?_⟩
    have rgok : RgOk 0 ((ar + own : Nat) : Int) := by unfold RgOk; omega
    mul_fits
    simp only [st_len, st_app]
    have hn : (rgD 0 ((ar + own : Nat) : Int)).length = ar + own := by rw [rgD0]; simp
    refine some_w (b := (R ++ g).length) (m := p.2) (row := rgD 0 ((ar + own : Nat) : Int)) (by rw [hn]; omega) (get_end _ _) fun full g2 d2 hp2 => ?_
    rw [rgD0] at hp2
    obtain ⟨fl, hp3, rfl⟩ := perm_of_map (f := natD) hp2
    have gg := get_g (R := R ++ g ++ [Ob.lst (rgD 0 ((ar + own : Nat) : Int))]) (d := d2) (g := g2) (o := .lst ((fl.map natD).take p.2))
    have sq : sqOf (d2.st (R ++ g ++ [Ob.lst (rgD 0 ((ar + own : Nat) : Int))] ++ (g2 ++ [Ob.lst ((fl.map natD).take p.2)]))) (.val (.ref ((R ++ g ++ [Ob.lst (rgD 0 ((ar + own : Nat) : Int))]).length + g2.length + 2))) = some ((fl.map natD).take p.2) := by simp only [sqOf, lsOf, gg]
    mul_fits
    refine ⟨⟨p.1, fl.take p.2⟩, by show _ = some (D.tup [.str p.1, .tup ((fl.take p.2).map natD)]); rw [List.map_take], ⟨d2, g ++ [Ob.lst (rgD 0 ((ar + own : Nat) : Int))] ++ (g2 ++ [Ob.lst ((fl.map natD).take p.2)]), by simp⟩, rfl, ?_, ?_, fun x hx => ?_⟩
    · have := hp3.length_eq
      have := m4 p hp
      rw [List.length_take]
      simp at *
      omega
    · exact (hp3.nodup_iff.mpr List.nodup_range).sublist (List.take_sublist _ _)
    · exact List.mem_range.mp (hp3.mem_iff.mp (List.mem_of_mem_take hx))
  obtain ⟨d', g, rfl⟩ := e
  refine ⟨k1 d' g, ?_⟩
  mul_fits
  obtain ⟨mrow, r1, r2, r3, r4⟩ := hm.ex
  refine marks_w (n := own) (by omega) r1 r2 (get_pre r3) r4 fun ms d2 hms hmc => ?_
  mul_fits
  obtain ⟨srow, s1, s2, s3, s4⟩ := hs.ex
  refine ties_w (n := ar + own) (t := t) (by omega) ht s1 s2 (get_pre s3) s4 fun pt d3 hpt hpl hps => ?_
  mul_fits
  refine gc_st2 ((pd_rl ⟨nm, ms, pt, sl⟩).b _) ?_
  refine h ⟨nm, ms, pt, sl⟩ d3 ⟨rfl, ?_, ?_, ?_, Nat.le_trans hpl ht, hps, hmc⟩
  · show ms.length ≤ _
    omega
  · show All2 (fun (p : Str × Nat) (s : Sl) => s.nm = p.1 ∧ s.pl.length = p.2 ∧ s.pl.Nodup ∧ ∀ x ∈ s.pl, x < ar + ms.length) used sl
    rw [hms]
    exact a
  · show ∀ p ∈ pt, PtIn (ar + ms.length) p
    rw [hms]
    exact hpt
end
/-- a rule within names -/
structure RlIn (nms : List (Str × Nat)) (r : Rl) : Prop where
  ex : ∃ a, (r.nm, a) ∈ nms ∧ (∀ s ∈ r.sl, ∃ a', (s.nm, a') ∈ nms ∧ s.pl.length = a' ∧ s.pl.Nodup ∧ ∀ x ∈ s.pl, x < a + r.ms.length) ∧ (∀ p ∈ r.ts, PtIn (a + r.ms.length) p)
  sl : r.sl.length ≤ 3
  ms : r.ms.length ≤ 6
  tl : r.ts.length ≤ 60
  ss : srt r.ts = r.ts
  mc : ∀ c ∈ r.ms, c < 1114112
theorem toPs_prs (f : Nat → Option PyData) (l : List (Str × Nat)) : toPsW f (l.map prD) = some (l.map fun p => .tuple [.str p.1, .int (p.2 : Nat)]) := by
  induction l with
  | nil => rfl
  | cons x l ih => simp [toPsW, toPW, ih]
theorem sort_prs {S : Sto} {l : List (Str × Nat)} {Q : List D → Sto → Prop} (h : ∀ l' : List (Str × Nat), l'.Perm l → Q (l'.map prD) S) : W (sortD S (l.map prD)) Q := by
  have e : toPs S (l.map prD) = some _ := toPs_prs _ _
  unfold sortD
  rw [e]
  refine w_ask ⟨fun a ha b hb => ?_, .inl fun a ha => ?_, fun a ha => ?_⟩ (w_ok ?_)
  · obtain ⟨x, _, rfl⟩ := List.mem_map.mp ha
    obtain ⟨y, _, rfl⟩ := List.mem_map.mp hb
    simp [PySem.W.alike, PySem.W.alikeAll]
  · obtain ⟨x, _, rfl⟩ := List.mem_map.mp ha
    exact ⟨_, _, rfl⟩
  · obtain ⟨x, _, rfl⟩ := List.mem_map.mp ha
    simp [PyData.depth, PyData.depthAll]
  · obtain ⟨l', h1, h2⟩ := perm_of_map (List.mergeSort_perm (l.map prD) (PySem.W.dataLe false fun d => (toP S d).getD .none))
    rw [h2]
    exact h l' h1
theorem rlIn_of {nms : List (Str × Nat)} {r : Rl} {nm : Str} {a inner : Nat} {used : List (Str × Nat)} (o : RlOk r nm a used inner) (hin : inner ≤ 6) (ha : (nm, a) ∈ nms) (hu : ∀ p ∈ used, p ∈ nms) (hl : used.length ≤ 3) : RlIn nms r := by
  refine ⟨⟨a, by rw [o.nm]; exact ha, fun s hs => ?_, o.ts⟩, by rw [o.sl.len]; exact hl, by have := o.msl; omega, o.tl, o.ss, o.mc⟩
  obtain ⟨p, hp, h1, h2, h3, h4⟩ := o.sl.mem s hs
  exact ⟨p.2, by rw [h1]; exact hu p hp, h2, h3, h4⟩
section
variable {k : Nat} {R : Sto} {Q : D → Sto → Prop} {d : DS} {m : Int}
end
def gS {α : Type} : List (Str × α) → Str → Option α
  | [], _ => none
  | (j, a) :: r, s => if j = s then some a else gS r s
def pS {α : Type} : List (Str × α) → Str → α → List (Str × α)
  | [], s, a => [(s, a)]
  | (j, b) :: r, s, a => if j = s then (j, a) :: r else (j, b) :: pS r s a
def encK {α : Type} (e : α → D) (l : List (Str × α)) : List (Key × D) := l.map fun p => (.inr p.1, e p.2)
section
variable {α : Type} {e : α → D}
theorem encK_len (l : List (Str × α)) : (encK e l).length = l.length := List.length_map _
theorem gD_enc (s : Str) : ∀ l : List (Str × α), gD (encK e l) (.inr s) = (gS l s).map e
  | [] => rfl
  | (j, a) :: r => by
    show (if (Sum.inr j : Key) = .inr s then some (e a) else gD (encK e r) (.inr s)) = _
    unfold gS
    by_cases h : j = s
    · rw [if_pos (by rw [h]), if_pos h]
      rfl
    · rw [if_neg (fun z => h (Sum.inr.inj z)), if_neg h, gD_enc s r]
theorem pD_enc (s : Str) (a : α) : ∀ l : List (Str × α), pD (encK e l) (.inr s) (e a) = encK e (pS l s a)
  | [] => rfl
  | (j, b) :: r => by
    show (if (Sum.inr j : Key) = .inr s then ((.inr j : Key), e a) :: encK e r else (.inr j, e b) :: pD (encK e r) (.inr s) (e a)) = _
    unfold pS
    by_cases h : j = s
    · rw [if_pos (by rw [h]), if_pos h]
      rfl
    · rw [if_neg (fun z => h (Sum.inr.inj z)), if_neg h, pD_enc s a r]
      rfl
theorem gS_pS (k j : Str) (a : α) : ∀ l : List (Str × α), gS (pS l k a) j = if k = j then some a else gS l j
  | [] => rfl
  | (i, b) :: r => by
    unfold pS
    by_cases h : i = k
    · rw [if_pos h]
      subst h
      unfold gS
      by_cases h2 : i = j
      · rw [if_pos h2, if_pos h2]
      · rw [if_neg h2, if_neg h2, if_neg h2]
    · rw [if_neg h]
      unfold gS
      rw [gS_pS k j a r]
      by_cases h2 : i = j
      · subst h2
        rw [if_pos rfl, if_pos rfl, if_neg (fun z => h z.symm)]
      · rw [if_neg h2, if_neg h2]
theorem pS_len (s : Str) (a : α) : ∀ l : List (Str × α), (pS l s a).length ≤ l.length + 1
  | [] => Nat.le_refl _
  | (i, b) :: r => by
    unfold pS
    split
    · rw [List.length_cons, List.length_cons]; omega
    · rw [List.length_cons, List.length_cons]
      have := pS_len s a r
      omega
end
abbrev Ls := List (Str × Nat)
def inL (l : Ls) (r : Rl) : Bool := r.sl.all fun s => (gS l s.nm).isSome
def smL (l : Ls) (r : Rl) : Nat := (r.sl.map fun s => (gS l s.nm).getD 0).sum
def stp (l : Ls) (r : Rl) : Ls := if inL l r = true then (match gS l r.nm with
  | none => pS l r.nm (1 + smL l r)
  | some w => if 1 + smL l r < w then pS l r.nm (1 + smL l r) else l) else l
def trn (b : Bk) (l : Ls) : Ls := b.rls.foldl stp l
def lsts (b : Bk) : Nat → Ls
  | 0 => []
  | n + 1 => trn b (lsts b n)
def lstB (b : Bk) : Ls := lsts b b.nms.length
theorem stp_len (l : Ls) (r : Rl) : (stp l r).length ≤ l.length + 1 := by
  unfold stp
  split
  · split
    · exact pS_len _ _ _
    · split
      · exact pS_len _ _ _
      · omega
  · omega
/-- less or the same, and no name lost -/
def LeL (l m : Ls) : Prop := ∀ s v, gS l s = some v → ∃ w, gS m s = some w ∧ w ≤ v
theorem LeL.refl {l : Ls} : LeL l l := fun s v h => ⟨v, h, Nat.le_refl _⟩
theorem LeL.trans {l m n : Ls} (a : LeL l m) (b : LeL m n) : LeL l n := fun s v h => by
  obtain ⟨w, h1, h2⟩ := a s v h
  obtain ⟨x, h3, h4⟩ := b s w h1
  exact ⟨x, h3, by omega⟩
theorem stp_le (l : Ls) (r : Rl) : LeL l (stp l r) := fun s v h => by
  unfold stp
  split
  · split
    · rename_i e
      rw [gS_pS, if_neg (fun z => by rw [z, h] at e; cases e)]
      exact ⟨v, h, Nat.le_refl _⟩
    · rename_i w e
      split
      · rename_i hw
        rw [gS_pS]
        by_cases c : r.nm = s
        · rw [if_pos c]
          rw [c, h] at e
          cases e
          exact ⟨_, rfl, Nat.le_of_lt hw⟩
        · rw [if_neg c]
          exact ⟨v, h, Nat.le_refl _⟩
      · exact ⟨v, h, Nat.le_refl _⟩
  · exact ⟨v, h, Nat.le_refl _⟩
theorem inL_iff {l : Ls} {r : Rl} : inL l r = true ↔ ∀ s ∈ r.sl, ∃ v, gS l s.nm = some v := by
  unfold inL
  rw [List.all_eq_true]
  exact ⟨fun h s hs => Option.isSome_iff_exists.mp (h s hs), fun h s hs => Option.isSome_iff_exists.mpr (h s hs)⟩
theorem sum_le {α : Type} {f g : α → Nat} : ∀ {l : List α}, (∀ x ∈ l, f x ≤ g x) → (l.map f).sum ≤ (l.map g).sum
  | [], _ => Nat.le_refl _
  | x :: l, h => by
    rw [List.map_cons, List.map_cons, List.sum_cons, List.sum_cons]
    have := h x (by simp)
    have := sum_le (l := l) fun y hy => h y (by simp [hy])
    omega
theorem inL_le {l m : Ls} {r : Rl} (a : LeL l m) (h : inL l r = true) : inL m r = true ∧ smL m r ≤ smL l r := by
  refine ⟨inL_iff.mpr fun s hs => ?_, sum_le fun s hs => ?_⟩
  · obtain ⟨v, hv⟩ := inL_iff.mp h s hs
    obtain ⟨w, hw, _⟩ := a _ _ hv
    exact ⟨w, hw⟩
  · obtain ⟨v, hv⟩ := inL_iff.mp h s hs
    obtain ⟨w, hw, h2⟩ := a _ _ hv
    rw [hv, hw]
    exact h2
/-- each number is borne by a rule -/
def GoodL (b : Bk) (l : Ls) : Prop := ∀ s v, gS l s = some v → ∃ r ∈ b.rls, r.nm = s ∧ inL l r = true ∧ 1 + smL l r ≤ v
theorem stp_good {b : Bk} {l : Ls} {r : Rl} (hr : r ∈ b.rls) (g : GoodL b l) : GoodL b (stp l r) := fun s v h => by
  have le := stp_le l r
  have keep : gS l s = some v → ∃ r' ∈ b.rls, r'.nm = s ∧ inL (stp l r) r' = true ∧ 1 + smL (stp l r) r' ≤ v := fun h => by
    obtain ⟨r', h1, h2, h3, h4⟩ := g s v h
    obtain ⟨k1, k2⟩ := inL_le le h3
    exact ⟨r', h1, h2, k1, by omega⟩
  by_cases c : inL l r = true
  · obtain ⟨k1, k2⟩ := inL_le le c
    have mine : r.nm = s → v = 1 + smL l r → ∃ r' ∈ b.rls, r'.nm = s ∧ inL (stp l r) r' = true ∧ 1 + smL (stp l r) r' ≤ v := fun e1 e2 => ⟨r, hr, e1, k1, by omega⟩
    have e : stp l r = (match gS l r.nm with
      | none => pS l r.nm (1 + smL l r)
      | some w => if 1 + smL l r < w then pS l r.nm (1 + smL l r) else l) := if_pos c
    have put : stp l r = pS l r.nm (1 + smL l r) → ∃ r' ∈ b.rls, r'.nm = s ∧ inL (stp l r) r' = true ∧ 1 + smL (stp l r) r' ≤ v := fun e => by
      have h' := h
      rw [e, gS_pS] at h'
      by_cases q : r.nm = s
      · rw [if_pos q] at h'
        exact mine q (Option.some.inj h').symm
      · rw [if_neg q] at h'
        exact keep h'
    cases q : gS l r.nm with
    | none =>
      rw [q] at e
      exact put e
    | some w =>
      rw [q] at e
      by_cases hw : 1 + smL l r < w
      · exact put (e.trans (if_pos hw))
      · have e2 : stp l r = l := e.trans (if_neg hw)
        rw [e2] at h
        exact keep h
  · have e : stp l r = l := if_neg c
    rw [e] at h
    exact keep h
theorem foldl_inv {α β : Type} {f : β → α → β} (P : β → Prop) : ∀ (l : List α) (b : β), P b → (∀ x ∈ l, ∀ b, P b → P (f b x)) → P (l.foldl f b)
  | [], _, h, _ => h
  | x :: l, b, h, k => foldl_inv P l (f b x) (k x (by simp) b h) fun y hy => k y (by simp [hy])
theorem trn_good {b : Bk} {l : Ls} (g : GoodL b l) : GoodL b (trn b l) := foldl_inv (GoodL b) _ _ g fun r hr l g => stp_good hr g
theorem trn_le {b : Bk} (l : Ls) : LeL l (trn b l) := foldl_inv (LeL l) _ _ .refl fun r _ m h => h.trans (stp_le m r)
theorem lsts_good (b : Bk) : ∀ n, GoodL b (lsts b n)
  | 0 => fun s v h => by cases h
  | n + 1 => trn_good (lsts_good b n)
theorem lsts_le (b : Bk) : ∀ {m n : Nat}, m ≤ n → LeL (lsts b m) (lsts b n)
  | m, 0, h => by
    have : m = 0 := by omega
    subst this
    exact .refl
  | m, n + 1, h => by
    by_cases e : m = n + 1
    · subst e
      exact .refl
    · exact (lsts_le b (by omega)).trans (trn_le _)
theorem lstB_good (b : Bk) : GoodL b (lstB b) := lsts_good b _
theorem good_pos {b : Bk} {l : Ls} (g : GoodL b l) {s : Str} {v : Nat} (h : gS l s = some v) : 1 ≤ v := by
  obtain ⟨_, _, _, _, k⟩ := g s v h
  omega

section
variable {k : Nat} {S : Sto} {Q : D → Sto → Prop}
theorem in_enc {S : Sto} {a : Nat} {α : Type} {e : α → D} {l : List (Str × α)} {s : Str} (k1 : S[a]? = some (.dic (encK e l))) : inD (.str s) (.val (.ref a)) S = some (gS l s).isSome := by
  rw [inD_dic k1 rfl, gD_enc, Option.isSome_map]
theorem bools_m {α : Type} (f : α → Bool) (l : List α) : boolsOf (l.map fun x => D.bl (f x)) = some (l.map f) := by
  have := bools_map (l.map f)
  rw [List.map_map] at this
  exact this
theorem ints_m {α : Type} (f : α → Nat) (l : List α) : intsOf (l.map fun x => natD (f x)) = some (l.map fun x => ((f x : Nat) : Int)) := by
  have := PQ.ints_map (l.map fun x => ((f x : Nat) : Int))
  rw [List.map_map] at this
  exact this
theorem sum_cast {α : Type} (f : α → Nat) : ∀ l : List α, (l.map fun x => ((f x : Nat) : Int)).sum = (((l.map f).sum : Nat) : Int)
  | [] => rfl
  | x :: l => by
    rw [List.map_cons, List.map_cons, List.sum_cons, List.sum_cons, sum_cast f l]
    omega
theorem all_m {α : Type} (f : α → Bool) (l : List α) : (l.map f).all id = l.all f := by
  rw [List.all_map]
  rfl
/-- all names of a row of slots are known -/
theorem known_w {C : Orc} {ρ : En} {a j v : Nat} {l : Ls} {sl : List Sl} {own : List Nat} {QQ : D → Sto → Prop} (hown : own = [j]) (hv : ρ[v]? = some (some (.ref a))) (hj : j < ρ.length) (hvj : v ≠ j) (hl : sl.length ≤ 100000) {Sx : Sto} (k1 : Sx[a]? = some (.dic (encK natD l))) (h : QQ (.bl (sl.all fun s => (gS l s.nm).isSome)) Sx)
    {it : CE} (hit : evE C it ρ Sx = .ok (.tup (sl.map Sl.d)) Sx) :
    W (evE C (.agg .all (.q (.comp own (.nm j) (.r (.e it)) (.inr (.idx (.var j) (.lit (.int 0))) (.e (.var v)))))) ρ Sx) QQ := by
  subst hown
  refine w_agg (w_q (w_comp (w_ir (w_e ?_))))
  rw [hit]
  refine w_ok (w_may (show itOf (.val (.tup (sl.map Sl.d))) Sx = some ⟨sl.map Sl.d, none⟩ from rfl) (w_ok ⟨by rw [List.length_map]; exact le_size hl, ?_⟩))
  refine loopQ_m Sl.d (fun s => .bl (gS l s.nm).isSome) (fun S => S = Sx) sl (fun s _ S e => ?_) (fun S e => ?_) _ rfl
  · subst e
    refine ⟨trivial, ?_⟩
    have e1 : wipeE ρ [j] = ρ.set j none := rfl
    have b1 : bindN (.nm j) s.d (wipeE ρ [j]) S = some ((ρ.set j none).set j (some s.d)) := rfl
    refine w_may b1 (w_bind (w_inr (w_idx (w_var (d := s.d) (by simp [hj]) (w_lit (v_idxT (d := .str s.nm) rfl (w_e (w_var (d := .ref a) ?_ (w_may (in_enc k1) (w_ok (w_ok ⟨rfl, rfl⟩)))))))))))
    rw [List.getElem?_set_ne (Ne.symm hvj), List.getElem?_set_ne (Ne.symm hvj)]
    exact hv
  · subst e
    refine ⟨trivial, v_all (show lsOf _ (.own _) = some _ from rfl) (bools_m _ _) ?_⟩
    rw [all_m]
    exact h
/-- the sum of their numbers -/
theorem known_sum {C : Orc} {ρ : En} {a j v : Nat} {l : Ls} {sl : List Sl} {own : List Nat} {QQ : D → Sto → Prop} (hown : own = [j]) (hv : ρ[v]? = some (some (.ref a))) (hj : j < ρ.length) (hvj : v ≠ j) (hl : sl.length ≤ 100000) {Sx : Sto} (k1 : Sx[a]? = some (.dic (encK natD l))) (hk : ∀ s ∈ sl, ∃ v, gS l s.nm = some v) (h : QQ (natD (sl.map fun s => (gS l s.nm).getD 0).sum) Sx)
    {it : CE} (hit : evE C it ρ Sx = .ok (.tup (sl.map Sl.d)) Sx) :
    W (evE C (.agg .sum (.q (.comp own (.nm j) (.r (.e it)) (.idx (.var v) (.idx (.var j) (.lit (.int 0))))))) ρ Sx) QQ := by
  subst hown
  refine w_agg (w_q (w_comp (w_ir (w_e ?_))))
  rw [hit]
  refine w_ok (w_may (show itOf (.val (.tup (sl.map Sl.d))) Sx = some ⟨sl.map Sl.d, none⟩ from rfl) (w_ok ⟨by rw [List.length_map]; exact le_size hl, ?_⟩))
  refine loopQ_m Sl.d (fun s => natD ((gS l s.nm).getD 0)) (fun S => S = Sx) sl (fun s hs S e => ?_) (fun S e => ?_) _ rfl
  · subst e
    refine ⟨trivial, ?_⟩
    obtain ⟨x, hx⟩ := hk s hs
    have b1 : bindN (.nm j) s.d (wipeE ρ [j]) S = some ((ρ.set j none).set j (some s.d)) := rfl
    refine w_may b1 (w_bind (w_idx (w_var (d := .ref a) ?_ (w_idx (w_var (d := s.d) (by simp [hj]) (w_lit (v_idxT (d := .str s.nm) rfl (v_idxK k1 rfl (show gD (encK natD l) (.inr s.nm) = some (natD x) from by rw [gD_enc, hx]; rfl) (w_ok ⟨by rw [hx]; rfl, rfl⟩)))))))))
    rw [List.getElem?_set_ne (Ne.symm hvj), List.getElem?_set_ne (Ne.symm hvj)]
    exact hv
  · subst e
    refine ⟨trivial, v_sum (show lsOf _ (.own _) = some _ from rfl) (ints_m _ _) ?_⟩
    rw [sum_cast]
    exact h
theorem least_w {b : Bk} (hz : b.nms.length ≤ 70) (hr : b.rls.length ≤ 1000) (hs : ∀ r ∈ b.rls, r.sl.length ≤ 3) (h : Q (.ref S.length) (S ++ [.dic (encK natD (lstB b))])) : W (orc T (k + 1) n__law_least [b.d] S) Q := by
  refine orc_w (ρ := [some b.d, none, none, none, none, none]) rfl rfl rfl ?_
  show W (evSs _ b__law_least _ _) _
  simp only [b__law_least]
  mul_fits
  rw [List.length_map]
  have bd : bd62 0 ∧ bd62 (b.nms.length : Int) := by unfold bd62; omega
  mul_fits
  rw [rgD_0]
  refine loopS_w (fun ds ρ S' => ∃ (c m : Nat) (o2 o3 o4 o5 : Option D), c + m = b.nms.length ∧ ds = (List.range' c m).map natD ∧ S' = S ++ [.dic (encK natD (lsts b c))] ∧ ρ = [some b.d, some (.ref S.length), o2, o3, o4, none] ∧ (lsts b c).length ≤ c * b.rls.length) ?_ ?_ _ _ _ ⟨0, b.nms.length, _, _, _, none, by omega, rfl, rfl, rfl, by simp [lsts]⟩
  · rintro d ds ρ S' ⟨c, m, o2, o3, o4, o5, hcm, hds, rfl, rfl, hlen⟩
    refine ⟨trivial, ?_⟩
    cases m with
    | zero => exact absurd hds (by simp)
    | succ m =>
    rw [rg'_cons, List.map_cons, List.cons.injEq] at hds
    obtain ⟨rfl, rfl⟩ := hds
    simp only [b__law_least_1]
    mul_fits
    have big : (c + 1) * b.rls.length ≤ 70000 := Nat.le_trans (Nat.mul_le_mul (show c + 1 ≤ 70 by omega) hr) (by decide)
    refine loopS_e Rl.d (fun r ρ S' => ∃ (l : Ls) (o3 o4 : Option D), S' = S ++ [.dic (encK natD l)] ∧ ρ = [some b.d, some (.ref S.length), some (natD c), o3, o4, none] ∧ r.foldl stp l = lsts b (c + 1) ∧ l.length + r.length ≤ (c + 1) * b.rls.length ∧ ∀ x ∈ r, x ∈ b.rls) ?_ ?_ b.rls _ _ ⟨lsts b c, o3, o4, rfl, rfl, rfl, by rw [Nat.succ_mul]; omega, fun x hx => hx⟩
    · rintro x r ρ S' ⟨l, o3, o4, rfl, rfl, h1, h2, h3⟩
      refine ⟨trivial, ?_⟩
      rw [List.length_cons] at h2
      rw [List.foldl_cons] at h1
      have hx := hs x (h3 x (by simp))
      have kd : (S ++ [Ob.dic (encK natD l)])[S.length]? = some (.dic (encK natD l)) := get_end _ _
      have hit : ∀ o4 : Option D, evE (orc T k) (CE.idx (.var 3) (.lit (.int 3))) [some b.d, some (.ref S.length), some (natD c), some x.d, o4, none] (S ++ [.dic (encK natD l)]) = .ok (.tup (x.sl.map Sl.d)) (S ++ [.dic (encK natD l)]) := fun o4 => by
        simp [evE, may, idxD, Rl.d, atI, ixN, Res.bind]
      have next : stp l x = l ∨ stp l x = pS l x.nm (1 + smL l x) → ∀ o4, ∃ ρ', (Fl.nx [some b.d, some (.ref S.length), some (natD c), some x.d, o4, none] = .nx ρ' ∨ Fl.nx [some b.d, some (.ref S.length), some (natD c), some x.d, o4, none] = .ct ρ') ∧ ∃ (l' : Ls) (o3 o4 : Option D), S ++ [.dic (encK natD (stp l x))] = S ++ [.dic (encK natD l')] ∧ ρ' = [some b.d, some (.ref S.length), some (natD c), o3, o4, none] ∧ r.foldl stp l' = lsts b (c + 1) ∧ l'.length + r.length ≤ (c + 1) * b.rls.length ∧ ∀ x ∈ r, x ∈ b.rls := fun _ o4 =>
        ⟨_, .inl rfl, stp l x, _, _, rfl, rfl, h1, by have := stp_len l x; omega, fun y hy => h3 y (by simp [hy])⟩
      simp only [b__law_least_2]
      refine w_may rfl ?_
      refine w_scons (w_ite (w_tv (known_w (l := l) (sl := x.sl) rfl rfl (by simp) (by decide) (by omega) kd ?_ (hit _))))
      refine w_tru_b (w_ok (w_if (fun c1 => ?_) fun c1 => ?_))
      · have c2 : inL l x = true := c1
        refine w_scons (w_set (w_bin (w_lit (known_sum (l := l) (sl := x.sl) rfl rfl (by simp) (by decide) (by omega) kd (inL_iff.mp c2) ?_ (hit _)))))
        have en : (1 : Int) + (((x.sl.map fun s => (gS l s.nm).getD 0).sum : Nat) : Int) = ((1 + smL l x : Nat) : Int) := by
          show (1 : Int) + ((smL l x : Nat) : Int) = _
          omega
        refine v_add ?_
        rw [en]
        mul_fits
        have kin : inD (.str x.nm) (.val (.ref S.length)) (S ++ [Ob.dic (encK natD l)]) = some (gS l x.nm).isSome := in_enc kd
        have zl : (encK natD l).length < sizeLine := Nat.lt_of_lt_of_le (Nat.lt_succ_self _) (by rw [encK_len]; exact le_size (by omega))
        cases q : gS l x.nm with
        | none =>
          rw [q] at kin
          have es : stp l x = pS l x.nm (1 + smL l x) := by
            unfold stp
            rw [if_pos c2, q]
          refine w_may kin ?_
          mul_fits
          rw [set_end, pD_enc, ← es]
          exact next (.inr es) _
        | some w =>
          rw [q] at kin
          refine w_may kin ?_
          have kg : gD (encK natD l) (.inr x.nm) = some (natD w) := by rw [gD_enc, q]; rfl
          mul_fits
          refine w_ifd (fun c3 => ?_) fun c3 => ?_
          · have es : stp l x = pS l x.nm (1 + smL l x) := by
              unfold stp
              rw [if_pos c2, q]
              exact if_pos (by omega)
            mul_fits
            rw [set_end, pD_enc, ← es]
            exact next (.inr es) _
          · have es : stp l x = l := by
              unfold stp
              rw [if_pos c2, q]
              exact if_neg (by omega)
            mul_fits
            have := next (.inl es) (some (natD (1 + smL l x)))
            rw [es] at this
            exact this
      · have es : stp l x = l := if_neg (by rw [show inL l x = false from c1]; decide)
        mul_fits
        have := next (.inl es) o4
        rw [es] at this
        exact this
    · rintro ρ S' ⟨l, o3, o4, rfl, rfl, h1, h2, h3⟩
      refine ⟨trivial, ?_⟩
      rw [List.foldl_nil] at h1
      subst h1
      mul_fits
      exact ⟨_, .inl rfl, c + 1, m, _, _, _, none, by omega, rfl, rfl, rfl, by simpa using h2⟩
  · rintro ρ S' ⟨c, m, o2, o3, o4, o5, hcm, hds, rfl, rfl, hlen⟩
    refine ⟨trivial, ?_⟩
    cases m with
    | succ m => exact absurd hds (by simp [rg'_cons])
    | zero =>
    have hc : c = b.nms.length := by omega
    subst hc
    mul_fits
    simp only [b__law_least_3]
    mul_fits
    rw [gc_out (by simp [below])]
    exact w_ok h
end
inductive Tr where
  | nd (n : Nat) (ps : List Tr)
mutual
def Tr.d : Tr → D
  | .nd n ps => .tup [natD n, .tup (Trs.d ps)]
def Trs.d : List Tr → List D
  | [] => []
  | t :: r => t.d :: Trs.d r
end
theorem trs_d : ∀ ps : List Tr, Trs.d ps = ps.map Tr.d
  | [] => rfl
  | t :: r => by rw [Trs.d, trs_d r]; rfl
theorem tr_d (n : Nat) (ps : List Tr) : (Tr.nd n ps).d = .tup [natD n, .tup (ps.map Tr.d)] := by rw [Tr.d, trs_d]
mutual
theorem pd_tr : ∀ t : Tr, Pd t.d
  | .nd n ps => by
    rw [Tr.d]
    exact ⟨trivial, pd_trs ps, trivial⟩
theorem pd_trs : ∀ ps : List Tr, belows 0 (Trs.d ps)
  | [] => trivial
  | t :: r => ⟨pd_tr t, pd_trs r⟩
end
def Tr.num : Tr → Nat
  | .nd n _ => n
def Tr.kids : Tr → List Tr
  | .nd _ ps => ps
mutual
def Tr.pre : Tr → List Tr
  | .nd n ps => .nd n ps :: pres ps
def pres : List Tr → List Tr
  | [] => []
  | t :: r => t.pre ++ pres r
end
theorem pre_eq (t : Tr) : t.pre = t :: pres t.kids := by
  cases t
  rw [Tr.pre]
  rfl
theorem pres_append : ∀ a b : List Tr, pres (a ++ b) = pres a ++ pres b
  | [], b => rfl
  | t :: r, b => by rw [List.cons_append, pres, pres, pres_append r b, List.append_assoc]
abbrev rwD (p : Nat × Nat) : D := .tup [natD p.1, natD p.2]
/-- a row of trees from its nodes in order -/
def par : List (Nat × Nat) → Option (List Tr)
  | [] => some []
  | (n, m) :: r => (par r).bind fun ts => if m ≤ ts.length then some (.nd n (ts.take m) :: ts.drop m) else none
theorem par_pre : ∀ {rows : List (Nat × Nat)} {ts : List Tr}, par rows = some ts → (pres ts).map Tr.num = rows.map (·.1)
  | [], ts, h => by cases h; rfl
  | (n, m) :: r, ts, h => by
    unfold par at h
    obtain ⟨us, h1, h2⟩ := Option.bind_eq_some_iff.mp h
    by_cases c : m ≤ us.length
    · rw [if_pos c] at h2
      cases h2
      rw [pres, Tr.pre, List.cons_append, ← pres_append, List.take_append_drop, List.map_cons, List.map_cons, par_pre h1]
      rfl
    · rw [if_neg c] at h2
      cases h2
mutual
/-- a build of a name -/
def Wf (b : Bk) (nm : Str) : Tr → Prop
  | .nd n ps => ∃ r, b.rls[n]? = some r ∧ r.nm = nm ∧ Wfs b (r.sl.map (·.nm)) ps
def Wfs (b : Bk) : List Str → List Tr → Prop
  | [], [] => True
  | x :: xs, t :: ts => Wf b x t ∧ Wfs b xs ts
  | [], _ :: _ => False
  | _ :: _, [] => False
end
theorem Wfs.len {b : Bk} : ∀ {xs : List Str} {ts : List Tr}, Wfs b xs ts → ts.length = xs.length
  | [], [], _ => rfl
  | _ :: xs, _ :: ts, h => by
    rw [Wfs] at h
    rw [List.length_cons, List.length_cons, Wfs.len h.2]
  | [], _ :: _, h => by simp [Wfs] at h
  | _ :: _, [], h => by simp [Wfs] at h
theorem Wfs.split {b : Bk} : ∀ {xs ys : List Str} {ts : List Tr}, Wfs b (xs ++ ys) ts → Wfs b xs (ts.take xs.length) ∧ Wfs b ys (ts.drop xs.length)
  | [], ys, ts, h => ⟨by simp [Wfs], h⟩
  | x :: xs, ys, [], h => by simp [Wfs] at h
  | x :: xs, ys, t :: ts, h => by
    rw [List.cons_append, Wfs] at h
    obtain ⟨h1, h2⟩ := Wfs.split h.2
    refine ⟨?_, h2⟩
    rw [List.length_cons, List.take_succ_cons, Wfs]
    exact ⟨h.1, h1⟩
mutual
theorem Wf.lt {b : Bk} : ∀ {nm : Str} (t : Tr), Wf b nm t → ∀ x ∈ t.pre, x.num < b.rls.length
  | nm, .nd n ps, h, x, hx => by
    rw [Wf] at h
    obtain ⟨r, h1, h2, h3⟩ := h
    rw [Tr.pre] at hx
    rcases List.mem_cons.mp hx with rfl | hx
    · exact (List.getElem?_eq_some_iff.mp h1).1
    · exact Wfs.lt ps h3 x hx
theorem Wfs.lt {b : Bk} : ∀ {xs : List Str} (ts : List Tr), Wfs b xs ts → ∀ x ∈ pres ts, x.num < b.rls.length
  | _, [], _, x, hx => by simp [pres] at hx
  | [], t :: ts, h, x, hx => by simp [Wfs] at h
  | _ :: _, t :: ts, h, x, hx => by
    rw [Wfs] at h
    rw [pres] at hx
    rcases List.mem_append.mp hx with hx | hx
    · exact Wf.lt t h.1 x hx
    · exact Wfs.lt ts h.2 x hx
end
/-- the numbers of a name's rules -/
def rlsOf (b : Bk) (nm : Str) : List Nat := (List.range b.rls.length).filter fun i => decide ((b.rls[i]?).map (·.nm) = some nm)
theorem mem_rlsOf {b : Bk} {nm : Str} {i : Nat} : i ∈ rlsOf b nm ↔ ∃ r, b.rls[i]? = some r ∧ r.nm = nm := by
  unfold rlsOf
  rw [List.mem_filter, List.mem_range, decide_eq_true_eq, Option.map_eq_some_iff]
  exact ⟨fun h => h.2, fun h => ⟨(List.getElem?_eq_some_iff.mp h.choose_spec.1).1, h⟩⟩
theorem rlsOf_len (b : Bk) (nm : Str) : (rlsOf b nm).length ≤ b.rls.length := by
  have := List.length_filter_le (fun i => decide ((b.rls[i]?).map (·.nm) = some nm)) (List.range b.rls.length)
  rw [List.length_range] at this
  exact this
section
variable {k : Nat} {S : Sto} {Q : D → Sto → Prop}
theorem at_rl {b : Bk} {i : Nat} (h : i < b.rls.length) : atI (b.rls.map Rl.d) (i : Int) = some (b.rls[i]).d := at_map _ _ _ h
theorem rules_w {b : Bk} {nm : Str} (hr : b.rls.length ≤ 1000) (h : Q (.ref S.length) (S ++ [.lst ((rlsOf b nm).map natD)])) : W (orc T (k + 1) n__law_rules [b.d, .str nm] S) Q := by
  refine orc_w (ρ := [some b.d, some (.str nm), none]) rfl rfl rfl ?_
  show W (evSs _ b__law_rules _ _) _
  simp only [b__law_rules]
  mul_fits
  rw [List.length_map]
  have bd : bd62 0 ∧ bd62 (b.rls.length : Int) := by unfold bd62; omega
  mul_fits
  rw [rgD0]
  refine ⟨by rw [List.length_map, List.length_range]; exact le_size (by omega), ?_⟩
  refine loopQ_f natD (fun i => decide ((b.rls[i]?).map (·.nm) = some nm)) natD (fun S' => S' = S) _ (fun i hi S' e => ?_) (fun S' e => ?_) _ rfl
  · subst e
    refine ⟨trivial, ?_⟩
    have hi := List.mem_range.mp hi
    have k1 := at_rl hi
    have e : (b.rls[i]?).map (·.nm) = some (b.rls[i]).nm := by rw [List.getElem?_eq_getElem hi]; rfl
    have e2 : decide ((b.rls[i]?).map (·.nm) = some nm) = decide ((b.rls[i]).nm = nm) := by
      rw [e]
      simp
    mul_fits
    rw [e2]
    refine w_ifd (fun c => ?_) fun c => ?_
    · mul_fits
      exact ⟨by rw [if_pos (decide_eq_true c)], rfl⟩
    · mul_fits
      exact ⟨by rw [if_neg (by simpa using c)], rfl⟩
  · subst e
    refine ⟨trivial, ?_⟩
    mul_fits
    rw [gc_out (by simp [below])]
    exact w_ok h
end
section
variable {k : Nat} {S : Sto} {Q : D → Sto → Prop}
theorem pop_rev {ts : List Tr} {t : Tr} : ((t :: ts).reverse.map Tr.d)[((t :: ts).reverse.map Tr.d).length - 1]? = some t.d ∧ ((t :: ts).reverse.map Tr.d).dropLast = ts.reverse.map Tr.d := by
  rw [List.reverse_cons, List.map_append]
  simp
theorem joined_w {bs : Nat} {rows : List (Nat × Nat)} {t : Tr} (hb : S[bs]? = some (.lst (rows.map rwD))) (hz : rows.length ≤ 50000) (hp : par rows = some [t]) (hm : ∀ p ∈ rows, p.2 ≤ 50000) (h : Q t.d S) : W (orc T (k + 1) n__law_joined [.ref bs] S) Q := by
  refine orc_w (ρ := [some (.ref bs), none, none, none, none, none, none]) rfl rfl rfl ?_
  show W (evSs _ b__law_joined _ _) _
  simp only [b__law_joined]
  have kb : ∀ g : Sto, (S ++ g)[bs]? = some (.lst (rows.map rwD)) := fun g => get_pre hb
  have sb : ∀ g : Sto, sqOf (S ++ g) (.val (.ref bs)) = some (rows.map rwD) := fun g => by simp only [sqOf, lsOf, kb]
  have sb1 := sb [.lst []]
  mul_fits
  rw [List.length_map]
  have bd : bd62 0 ∧ bd62 (rows.length : Int) := by unfold bd62; omega
  mul_fits
  rw [rgD_0]
  refine loopS_w (fun ds ρ S' => ∃ (c m : Nat) (ts : List Tr) (g : Sto) (o2 o3 o4 o5 : Option D), c + m = rows.length ∧ ds = (List.range' c m).map natD ∧ S' = S ++ [.lst (ts.reverse.map Tr.d)] ++ g ∧ ρ = [some (.ref bs), some (.ref S.length), o2, o3, o4, o5, none] ∧ par (rows.drop m) = some ts) ?_ ?_ _ _ _ ⟨0, rows.length, [], [], _, _, _, _, by omega, rfl, by simp, rfl, by rw [List.drop_length]; rfl⟩
  · rintro d ds ρ S' ⟨c, m, ts, g, o2, o3, o4, o5, hcm, hds, rfl, rfl, h1⟩
    refine ⟨trivial, ?_⟩
    cases m with
    | zero => exact absurd hds (by simp)
    | succ m =>
    rw [rg'_cons, List.map_cons, List.cons.injEq] at hds
    obtain ⟨rfl, rfl⟩ := hds
    have hm' : m < rows.length := by omega
    obtain ⟨p, hp1⟩ : ∃ p, rows[m]? = some p := ⟨_, List.getElem?_eq_getElem hm'⟩
    have hpm := hm p (List.mem_of_getElem? hp1)
    have ed : rows.drop m = p :: rows.drop (m + 1) := by
      rw [List.drop_eq_getElem_cons hm']
      congr 1
      exact (List.getElem?_eq_some_iff.mp hp1).2
    have hpar : ∃ us, par (p :: rows.drop (m + 1)) = some us := by
      have key : ∀ (l : List (Nat × Nat)) (r : List (Nat × Nat)), (∃ us, par (l ++ r) = some us) → ∃ us, par r = some us := by
        intro l
        induction l with
        | nil => intro r h; exact h
        | cons x l ih =>
          rintro r ⟨us, hu⟩
          rw [List.cons_append, par] at hu
          obtain ⟨vs, hv, _⟩ := Option.bind_eq_some_iff.mp hu
          exact ih r ⟨vs, hv⟩
      refine key (rows.take m) _ ⟨[t], ?_⟩
      rw [← ed, List.take_append_drop]
      exact hp
    obtain ⟨us, hu⟩ := hpar
    have hu' := hu
    rw [par, h1] at hu
    have hle : p.2 ≤ ts.length := by
      by_cases z : p.2 ≤ ts.length
      · exact z
      · rw [Option.bind_some, if_neg z] at hu
        cases hu
    rw [Option.bind_some, if_pos hle] at hu
    have eus : us = .nd p.1 (ts.take p.2) :: ts.drop p.2 := (Option.some.inj hu).symm
    have sb2 := sb ([.lst (ts.reverse.map Tr.d)] ++ g)
    rw [← List.append_assoc] at sb2
    have kb2 := kb ([.lst (ts.reverse.map Tr.d)] ++ g)
    rw [← List.append_assoc] at kb2
    have ei : ((rows.map rwD).length : Int) - 1 - (c : Int) = (m : Int) := by rw [List.length_map]; omega
    have ka : atI (rows.map rwD) (m : Int) = some (rwD p) := by
      rw [at_map _ _ _ hm']
      congr 1
      rw [(List.getElem?_eq_some_iff.mp hp1).2]
    simp only [b__law_joined_1]
    mul_fits
    rw [ei]
    mul_fits
    have bd2 : bd62 0 ∧ bd62 (p.2 : Int) := by unfold bd62; omega
    mul_fits
    rw [rgD0]
    refine ⟨by rw [List.length_map, List.length_range]; exact le_size (by omega), ?_⟩
    refine loopQ_w (fun ds r S' => ∃ j, ds.length + j = p.2 ∧ r = (ts.take j).map Tr.d ∧ S' = S ++ [.lst ((ts.drop j).reverse.map Tr.d)] ++ g) ?_ ?_ _ _ ⟨0, by simp, by simp, by simp⟩
    · rintro d ds r S' ⟨j, j1, rfl, rfl⟩
      refine ⟨trivial, ?_⟩
      rw [List.length_cons] at j1
      have hj : j < ts.length := by omega
      have ej : ts.drop j = ts[j] :: ts.drop (j + 1) := List.drop_eq_getElem_cons hj
      obtain ⟨q1, q2⟩ := pop_rev (ts := ts.drop (j + 1)) (t := ts[j])
      have kl : (S ++ [.lst ((ts.drop j).reverse.map Tr.d)] ++ g)[S.length]? = some (.lst ((ts.drop j).reverse.map Tr.d)) := get_mid _ _ _
      rw [ej] at kl ⊢
      mul_fits
      refine v_pop kl q1 ?_
      rw [q2, set_mid]
      mul_fits
      refine ⟨j + 1, by omega, ?_, rfl⟩
      rw [List.take_succ_eq_append_getElem hj, List.map_append]
      rfl
    · rintro r S' ⟨j, j1, rfl, rfl⟩
      refine ⟨trivial, ?_⟩
      have hj : j = p.2 := by simpa using j1
      subst hj
      mul_fits
      have kl : ∀ g2, (S ++ [.lst ((ts.drop p.2).reverse.map Tr.d)] ++ g ++ g2)[S.length]? = some (.lst ((ts.drop p.2).reverse.map Tr.d)) := fun g2 => by
        rw [List.append_assoc]
        exact get_mid _ _ _
      have ge := get_end (S ++ [.lst ((ts.drop p.2).reverse.map Tr.d)] ++ g) (.lst ((ts.take p.2).map Tr.d))
      refine w_withL (kl _) ?_
      mul_fits
      have sq : sqOf (S ++ [Ob.lst ((ts.drop p.2).reverse.map Tr.d)] ++ g ++ [Ob.lst ((ts.take p.2).map Tr.d)]) (.val (.ref (S ++ [Ob.lst ((ts.drop p.2).reverse.map Tr.d)] ++ g).length)) = some ((ts.take p.2).map Tr.d) := by simp only [sqOf, lsOf, ge]
      mul_fits
      have tl : ts.length ≤ rows.length := by
        have key : ∀ (l : List (Nat × Nat)) (us : List Tr), par l = some us → us.length ≤ l.length := by
          intro l
          induction l with
          | nil => intro us h; cases h; simp
          | cons x l ih =>
            intro us h
            rw [par] at h
            obtain ⟨vs, hv, h⟩ := Option.bind_eq_some_iff.mp h
            have := ih vs hv
            by_cases z : x.2 ≤ vs.length
            · rw [if_pos z] at h
              cases h
              simp
              omega
            · rw [if_neg z] at h
              cases h
        have := key _ _ h1
        rw [List.length_drop] at this
        omega
      refine v_app (kl _) (Nat.lt_of_lt_of_le (Nat.lt_succ_self _) (by rw [List.length_map, List.length_reverse, List.length_drop]; exact le_size (by omega))) ?_
      rw [List.append_assoc (S ++ _), set_mid]
      mul_fits
      refine ⟨_, .inl rfl, c + 1, m, us, g ++ [Ob.lst ((ts.take p.2).map Tr.d)], _, _, _, _, by omega, rfl, ?_, rfl, ?_⟩
      · rw [eus, List.reverse_cons, List.map_append, List.map_cons, tr_d]
        rfl
      · rw [ed]
        exact hu'
  · rintro ρ S' ⟨c, m, ts, g, o2, o3, o4, o5, hcm, hds, rfl, rfl, h1⟩
    refine ⟨trivial, ?_⟩
    cases m with
    | succ m => exact absurd hds (by simp [rg'_cons])
    | zero =>
    rw [List.drop_zero, hp] at h1
    cases h1
    have kl : (S ++ [.lst (([t] : List Tr).reverse.map Tr.d)] ++ g)[S.length]? = some (.lst [t.d]) := get_mid _ _ _
    mul_fits
    simp only [b__law_joined_2]
    mul_fits
    rw [List.append_assoc, gc_app ((pd_tr t).b _)]
    exact w_ok h
end
def sumL (l : Ls) (w : List Str) : Nat := (w.map fun s => (gS l s).getD 0).sum
theorem sumL_sl (l : Ls) (r : Rl) : sumL l (r.sl.map (·.nm)) = smL l r := by
  unfold sumL smL
  rw [List.map_map]
  rfl
theorem sumL_app (l : Ls) (a b : List Str) : sumL l (a ++ b) = sumL l a + sumL l b := by
  unfold sumL
  rw [List.map_append, List.sum_append]
theorem sumL_len {b : Bk} {l : Ls} (g : GoodL b l) : ∀ {w : List Str}, (∀ s ∈ w, ∃ v, gS l s = some v) → w.length ≤ sumL l w
  | [], _ => Nat.zero_le _
  | s :: w, h => by
    have ih := sumL_len g (w := w) fun x hx => h x (by simp [hx])
    obtain ⟨v, hv⟩ := h s (by simp)
    have := good_pos g hv
    have e : sumL l (s :: w) = v + sumL l w := by
      unfold sumL
      rw [List.map_cons, List.sum_cons, hv]
      rfl
    rw [e, List.length_cons]
    omega
section
variable {k : Nat} {R : Sto} {Q : D → Sto → Prop} {d : DS} {m : Int}
/-- the store of a build that is drawn -/
abbrev bst (d : DS) (A : Sto) (rows : List (Nat × Nat)) (wt : List Str) (g : Sto) : Sto := d.st (A ++ [.lst (rows.map rwD)] ++ ([.lst (wt.reverse.map D.str)] ++ g))
variable {A g : Sto} {rows : List (Nat × Nat)} {wt : List Str}
theorem bst_r : (bst d A rows wt g)[A.length + 2]? = some (.lst (rows.map rwD)) := st_mid
theorem bst_w : (bst d A rows wt g)[A.length + 1 + 2]? = some (.lst (wt.reverse.map D.str)) := by
  show (d.st _)[_]? = _
  rw [st_get, ← List.append_assoc, show A.length + 1 = (A ++ [Ob.lst (rows.map rwD)]).length by simp]
  exact get_mid _ _ _
theorem bst_sr {l : List D} {rows' : List (Nat × Nat)} (h : l = rows'.map rwD) : (bst d A rows wt g).set (A.length + 2) (.lst l) = bst d A rows' wt g := by
  subst h
  exact st_set_mid
theorem bst_sw {l : List D} {wt' : List Str} (h : l = wt'.reverse.map D.str) : (bst d A rows wt g).set (A.length + 1 + 2) (.lst l) = bst d A rows wt' g := by
  subst h
  show (d.st _).set _ _ = d.st _
  rw [← List.append_assoc, show A.length + 1 = (A ++ [Ob.lst (rows.map rwD)]).length by simp, st_set_mid, List.append_assoc]
theorem bst_d {a : Nat} {o : Ob} (h : A[a]? = some o) : (bst d A rows wt g)[a + 2]? = some o := by
  show (d.st _)[_]? = _
  rw [st_get, List.append_assoc]
  exact get_pre h
theorem bst_app {g2 : Sto} : bst d A rows wt g ++ g2 = bst d A rows wt (g ++ g2) := by
  show d.st _ ++ g2 = d.st _
  rw [st_app]
  simp
theorem bst_g {i : Nat} {o : Ob} (h : g[i]? = some o) : (bst d A rows wt g)[A.length + 2 + i + 2]? = some o := by
  show (d.st _)[_]? = _
  rw [st_get, ← List.append_assoc, List.getElem?_append_right (by simp)]
  rw [← h]
  congr 1
  simp
theorem bst_len : (bst d A rows wt g).length = A.length + 2 + g.length + 2 := by
  show (d.st _).length = _
  rw [st_len]
  simp
  omega
/-- what is open at a name -/
abbrev opD (p : Int × Nat) : D := .tup [.int p.1, natD p.2]
theorem build_w {b : Bk} {nm : Str} {most : Nat} (hz : b.nms.length ≤ 70) (hr : b.rls.length ≤ 900) (hs : ∀ r ∈ b.rls, r.sl.length ≤ 3) (hL : ∀ v, gS (lstB b) nm = some v → v ≤ 1000) (hmost : most ≤ 1000) (h0 : gS (lstB b) nm = none → ∀ d' : DS, Q .non (d'.st R))
    (h : ∀ (t : Tr) (d' : DS), Wf b nm t → (∃ v, gS (lstB b) nm = some v ∧ t.pre.length ≤ max v most) → Q t.d (d'.st R)) : W (orc T (k + 3) n__law_build [.ref 1, b.d, .str nm, natD most] (d.st R)) Q := by
  refine orc_w (ρ := [some (.ref 1), some b.d, some (.str nm), some (natD most), none, none, none, none, none, none, none, none, none, none, none, none]) rfl rfl rfl ?_
  show W (evSs _ b__law_build _ _) _
  simp only [b__law_build]
  mul_fits
  refine least_w hz (by omega) hs ?_
  simp only [st_len, st_app]
  have kd : ∀ (d : DS) (g : Sto), (d.st (R ++ [.dic (encK natD (lstB b))] ++ g))[R.length + 2]? = some (.dic (encK natD (lstB b))) := fun d g => st_mid
  have kd0 : (d.st (R ++ [.dic (encK natD (lstB b))]))[R.length + 2]? = some (.dic (encK natD (lstB b))) := by
    have := kd d []
    rwa [List.append_nil] at this
  have gd := lstB_good b
  generalize hL0 : lstB b = L at *
  mul_fits
  have kin : inD (.str nm) (.val (.ref (R.length + 2))) (d.st (R ++ [Ob.dic (encK natD L)])) = some (gS L nm).isSome := in_enc kd0
  refine w_may kin ?_
  cases hv : gS L nm with
  | none =>
    mul_fits
    refine gc_st2 trivial (h0 hv d)
  | some v =>
  have hv1 := hL v hv
  mul_fits
  simp only [b__law_build_1]
  have kg : gD (encK natD L) (.inr nm) = some (natD v) := by rw [gD_enc, hv]; rfl
  mul_fits
  simp only [st_len, st_app]
  generalize hA : R ++ [Ob.dic (encK natD L)] = A at *
  have kA : A[R.length]? = some (.dic (encK natD L)) := by rw [← hA]; exact get_end _ _
  have hAl : A.length = R.length + 1 := by rw [← hA]; simp
  have spare0 : (if (most : Int) - (v : Int) > 0 then (most : Int) - (v : Int) else 0) = ((max v most - v : Nat) : Int) := by
    split <;> omega
  rw [spare0]
  have e0 : d.st (A ++ [Ob.lst []] ++ [Ob.lst [D.str nm]]) = bst d A [] [nm] [] := rfl
  have e1 : (A ++ [Ob.lst []]).length + 2 = A.length + 1 + 2 := by simp
  rw [e0, e1]
  mul_fits
  rw [show rgD 0 4000 = (List.range 4000).map natD from rgD0 4000]
  refine loopS_re natD (fun r ρ S => ∃ (rows : List (Nat × Nat)) (wt : List Str) (g : Sto) (sp : Nat) (o8 o9 o10 o11 o12 o13 o14 : Option D) (d' : DS), S = bst d' A rows wt g ∧ ρ = [some (.ref 1), some b.d, some (.str nm), some (natD most), some (.ref (R.length + 2)), some (natD sp), some (.ref (A.length + 2)), some (.ref (A.length + 1 + 2)), o8, o9, o10, o11, o12, o13, o14, none] ∧ rows.length + r.length = 4000 ∧ (∀ s ∈ wt, ∃ v, gS L s = some v) ∧ rows.length + sumL L wt + sp = max v most ∧ (∀ rows' ts, par rows' = some ts → Wfs b wt ts → ∃ t, par (rows ++ rows') = some [t] ∧ Wf b nm t) ∧ (∀ p ∈ rows, p.2 ≤ 3)) ?_ ?_ _ _ _ ⟨[], [nm], [], max v most - v, _, _, _, _, _, _, _, d, rfl, rfl, by simp, ?_, ?_, ?_, by simp⟩
  rotate_left
  · rintro ρ S ⟨rows, wt, g, sp, o8, o9, o10, o11, o12, o13, o14, d', rfl, rfl, i1, i2, i3, i4, i5⟩
    exfalso
    simp at i1
    omega
  · intro s hs
    simp at hs
    subst hs
    exact ⟨v, hv⟩
  · have : sumL L [nm] = v := by simp [sumL, hv]
    rw [this]
    simp
    omega
  · intro rows' ts h1 h2
    match ts, h2 with
    | [t], h2 =>
      rw [Wfs] at h2
      exact ⟨t, h1, h2.1⟩
    | [], h2 => simp [Wfs] at h2
    | _ :: _ :: _, h2 => simp [Wfs] at h2
  rintro q r ρ S ⟨rows, wt, g, sp, o8, o9, o10, o11, o12, o13, o14, d', rfl, rfl, i1, i2, i3, i4, i5⟩
  refine ⟨trivial, ?_⟩
  rw [List.length_cons] at i1
  have sqw : sqOf (bst d' A rows wt g) (.val (.ref (A.length + 1 + 2))) = some (wt.reverse.map D.str) := by simp only [sqOf, lsOf, bst_w]
  have wl := sumL_len gd i2
  simp only [b__law_build_2]
  mul_fits
  cases wt with
  | nil =>
    refine w_ifd (fun c => ?_) fun c => (c (by simp)).elim
    obtain ⟨t, ht, hw⟩ := i4 [] [] rfl (by simp [Wfs])
    rw [List.append_nil] at ht
    mul_fits
    refine joined_w bst_r (by omega) ht (fun p hp => by have := i5 p hp; omega) ?_
    mul_fits
    have e : bst d' A rows [] g = d'.st (R ++ ([Ob.dic (encK natD L)] ++ ([.lst (rows.map rwD)] ++ ([.lst (([] : List Str).reverse.map D.str)] ++ g)))) := by
      show d'.st _ = d'.st _
      rw [← hA]
      simp
    rw [e]
    refine gc_st2 ((pd_tr t).b _) (h t d' hw ⟨v, hv, ?_⟩)
    have := congrArg List.length (par_pre ht)
    rw [List.length_map, List.length_map] at this
    rw [show t.pre = pres [t] by simp [pres], this]
    omega
  | cons due w =>
  refine w_ifd (fun c => ?_) fun c => ?_
  · exfalso
    simp at c
    omega
  mul_fits
  simp only [b__law_build_3]
  obtain ⟨lv, hlv⟩ := i2 due (by simp)
  have i2' : ∀ s ∈ w, ∃ v, gS L s = some v := fun s hs => i2 s (by simp [hs])
  have es : sumL L (due :: w) = lv + sumL L w := by
    unfold sumL
    rw [List.map_cons, List.sum_cons, hlv]
    rfl
  have pw : ((due :: w).reverse.map D.str)[((due :: w).reverse.map D.str).length - 1]? = some (.str due) ∧ ((due :: w).reverse.map D.str).dropLast = w.reverse.map D.str := by
    rw [List.reverse_cons, List.map_append]
    simp
  mul_fits
  refine v_pop bst_w pw.1 ?_
  rw [bst_sw (wt' := w) pw.2]
  mul_fits
  rw [bst_app, bst_len]
  refine rules_w (by omega) ?_
  rw [bst_app, bst_len]
  have eg : g ++ [Ob.lst []] ++ [Ob.lst ((rlsOf b due).map natD)] = g ++ [Ob.lst (([] : List (Int × Nat)).map opD)] ++ [Ob.lst ((rlsOf b due).map natD)] := rfl
  rw [eg]
  have gr : ∀ op : List (Int × Nat), (g ++ [Ob.lst (op.map opD)] ++ [Ob.lst ((rlsOf b due).map natD)])[(g ++ [Ob.lst []]).length]? = some (.lst ((rlsOf b due).map natD)) := fun op => by
    rw [show (g ++ [Ob.lst []]).length = (g ++ [Ob.lst (op.map opD)]).length by simp]
    exact get_end _ _
  have go : ∀ op : List (Int × Nat), (g ++ [Ob.lst (op.map opD)] ++ [Ob.lst ((rlsOf b due).map natD)])[g.length]? = some (.lst (op.map opD)) := fun op => get_mid _ _ _
  generalize hi2 : (g ++ [Ob.lst []]).length = j2 at gr ⊢
  have kr : ∀ (d : DS) (op : List (Int × Nat)), (bst d A rows w (g ++ [Ob.lst (op.map opD)] ++ [Ob.lst ((rlsOf b due).map natD)]))[A.length + 2 + j2 + 2]? = some (.lst ((rlsOf b due).map natD)) := fun d op => bst_g (gr op)
  have ko : ∀ (d : DS) (op : List (Int × Nat)), (bst d A rows w (g ++ [Ob.lst (op.map opD)] ++ [Ob.lst ((rlsOf b due).map natD)]))[A.length + 2 + g.length + 2]? = some (.lst (op.map opD)) := fun d op => bst_g (go op)
  have itr : itOf (.val (.ref (A.length + 2 + j2 + 2))) (bst d' A rows w (g ++ [Ob.lst (([] : List (Int × Nat)).map opD)] ++ [Ob.lst ((rlsOf b due).map natD)])) = some ⟨(rlsOf b due).map natD, some (A.length + 2 + j2 + 2)⟩ := by
    simp only [itOf, sqOf, lsOf, kr, Option.map_some]
  obtain ⟨r0, hr0, hn0, hin0, hle0⟩ := gd due lv hlv
  obtain ⟨n0, hn0'⟩ := List.mem_iff_getElem?.mp hr0
  have hmem0 : n0 ∈ rlsOf b due := mem_rlsOf.mpr ⟨r0, hn0', hn0⟩
  have rll := rlsOf_len b due
  mul_fits
  refine w_may itr ?_
  mul_fits
  refine loopS_e natD (fun rest ρ S => ∃ (op : List (Int × Nat)) (o11 o12 o13 : Option D), S = bst d' A rows w (g ++ [Ob.lst (op.map opD)] ++ [Ob.lst ((rlsOf b due).map natD)]) ∧ ρ = [some (.ref 1), some b.d, some (.str nm), some (natD most), some (.ref (R.length + 2)), some (natD sp), some (.ref (A.length + 2)), some (.ref (A.length + 1 + 2)), some (natD q), some (.str due), some (.ref (A.length + 2 + g.length + 2)), o11, o12, o13, o14, none] ∧ op.length + rest.length ≤ (rlsOf b due).length ∧ (∀ n ∈ rest, n ∈ rlsOf b due) ∧ (n0 ∈ rest ∨ op ≠ []) ∧ (∀ x ∈ op, ∃ r, b.rls[x.2]? = some r ∧ r.nm = due ∧ inL L r = true ∧ x.1 = 1 + (smL L r : Int) - (lv : Int) ∧ x.1 ≤ (sp : Int))) ?_ ?_ (rlsOf b due) _ _ ⟨[], o11, o12, o13, rfl, rfl, by simp, fun n hn => hn, .inl hmem0, by simp⟩
  · rintro n rest ρ S ⟨op, o11, o12, o13, rfl, rfl, p1, p2, p3, p4⟩
    refine ⟨kr _ _, ?_⟩
    rw [List.length_cons] at p1
    obtain ⟨rr, hrr, hrn⟩ := mem_rlsOf.mp (p2 n (by simp))
    have hn : n < b.rls.length := (List.getElem?_eq_some_iff.mp hrr).1
    have hrr2 : b.rls[n] = rr := (List.getElem?_eq_some_iff.mp hrr).2
    have hsl := hs rr (List.mem_of_getElem? hrr)
    have k1 := at_rl hn
    rw [hrr2] at k1
    have kdd : ∀ (d : DS) (op : List (Int × Nat)), (bst d A rows w (g ++ [Ob.lst (op.map opD)] ++ [Ob.lst ((rlsOf b due).map natD)]))[R.length + 2]? = some (.dic (encK natD L)) := fun d op => bst_d kA
    have kdx := kdd d' op
    have kox := ko d' op
    have hit : ∀ o13 : Option D, evE (orc T (k + 2)) (CE.var 12) [some (.ref 1), some b.d, some (.str nm), some (natD most), some (.ref (R.length + 2)), some (natD sp), some (.ref (A.length + 2)), some (.ref (A.length + 1 + 2)), some (natD q), some (.str due), some (.ref (A.length + 2 + g.length + 2)), some (natD n), some (.tup (rr.sl.map Sl.d)), o13, o14, none] (bst d' A rows w (g ++ [Ob.lst (op.map opD)] ++ [Ob.lst ((rlsOf b due).map natD)])) = .ok (.tup (rr.sl.map Sl.d)) (bst d' A rows w (g ++ [Ob.lst (op.map opD)] ++ [Ob.lst ((rlsOf b due).map natD)])) := fun o13 => by
      rw [evE]
      rfl
    simp only [b__law_build_4]
    refine w_may rfl ?_
    refine w_scons (w_set (W_mono (Q := fun x S' => x = .tup (rr.sl.map Sl.d) ∧ S' = bst d' A rows w (g ++ [Ob.lst (op.map opD)] ++ [Ob.lst ((rlsOf b due).map natD)])) ?_ ?_))
    · mul_fits
      exact ⟨rfl, rfl⟩
    rintro _ _ ⟨rfl, rfl⟩
    refine w_nx (w_scons (w_ite (w_tv (known_w (l := L) (sl := rr.sl) rfl rfl (by simp) (by decide) (by omega) kdx ?_ (hit _)))))
    refine w_tru_b (w_ok (w_if (fun c1 => ?_) fun c1 => ?_))
    · have c2 : inL L rr = true := c1
      refine w_scons (w_set (w_bin (w_bin (w_lit (known_sum (l := L) (sl := rr.sl) rfl rfl (by simp) (by decide) (by omega) kdx (inL_iff.mp c2) ?_ (hit _))))))
      have kgd : gD (encK natD L) (.inr due) = some (natD lv) := by rw [gD_enc, hlv]; rfl
      have esm : (((rr.sl.map fun s => (gS L s.nm).getD 0).sum : Nat) : Int) = (smL L rr : Int) := rfl
      rw [show natD (rr.sl.map fun s => (gS L s.nm).getD 0).sum = natD (smL L rr) from rfl]
      mul_fits
      refine w_ifd (fun c3 => ?_) fun c3 => ?_
      · mul_fits
        refine v_app kox (Nat.lt_of_lt_of_le (Nat.lt_succ_self _) (by rw [List.length_map]; exact le_size (by omega))) ?_
        have sset : (bst d' A rows w (g ++ [Ob.lst (op.map opD)] ++ [Ob.lst ((rlsOf b due).map natD)])).set (A.length + 2 + g.length + 2) (.lst (op.map opD ++ [.tup [.int (1 + (smL L rr : Int) - (lv : Int)), natD n]])) = bst d' A rows w (g ++ [Ob.lst ((op ++ [(1 + (smL L rr : Int) - (lv : Int), n)]).map opD)] ++ [Ob.lst ((rlsOf b due).map natD)]) := by
          have e3 : ∀ x : List D, bst d' A rows w (g ++ [Ob.lst x] ++ [Ob.lst ((rlsOf b due).map natD)]) = d'.st ((A ++ [.lst (rows.map rwD)] ++ ([.lst (w.reverse.map D.str)] ++ g)) ++ [Ob.lst x] ++ [Ob.lst ((rlsOf b due).map natD)]) := fun x => by
            show d'.st _ = d'.st _
            simp
          rw [e3, e3, show A.length + 2 + g.length = (A ++ [Ob.lst (rows.map rwD)] ++ ([Ob.lst (w.reverse.map D.str)] ++ g)).length by simp; omega, st_set_mid, List.map_append]
          rfl
        rw [sset]
        mul_fits
        refine ⟨_, .inl rfl, op ++ [(1 + (smL L rr : Int) - (lv : Int), n)], _, _, _, rfl, rfl, by simp; omega, fun x hx => p2 x (by simp [hx]), .inr (by simp), fun x hx => ?_⟩
        rcases List.mem_append.mp hx with hx | hx
        · exact p4 x hx
        · simp at hx
          subst hx
          exact ⟨rr, hrr, hrn, c2, rfl, c3⟩
      · mul_fits
        refine ⟨_, .inl rfl, op, _, _, _, rfl, rfl, by omega, fun x hx => p2 x (by simp [hx]), ?_, p4⟩
        rcases p3 with p3 | p3
        · rcases List.mem_cons.mp p3 with e | p3
          · exfalso
            rw [e, hrr] at hn0'
            cases hn0'
            omega
          · exact .inl p3
        · exact .inr p3
    · mul_fits
      refine ⟨_, .inl rfl, op, _, _, _, rfl, rfl, by omega, fun x hx => p2 x (by simp [hx]), ?_, p4⟩
      rcases p3 with p3 | p3
      · rcases List.mem_cons.mp p3 with e | p3
        · exfalso
          rw [e, hrr] at hn0'
          have e9 : rr = r0 := Option.some.inj hn0'
          have : inL L rr = false := c1
          rw [e9, hin0] at this
          cases this
        · exact .inl p3
      · exact .inr p3
  rintro ρ S ⟨op, o11, o12, o13, rfl, rfl, p1, p2, p3, p4⟩
  refine ⟨kr _ _, ?_⟩
  have p3 : op ≠ [] := p3.resolve_left (by simp)
  have opl : 0 < op.length := List.length_pos_iff.mpr p3
  have p1 : op.length ≤ (rlsOf b due).length := by simpa using p1
  mul_fits
  simp only [b__law_build_5]
  mul_fits
  have hrow : (A ++ [.lst (rows.map rwD)] ++ ([.lst (w.reverse.map D.str)] ++ (g ++ [Ob.lst (op.map opD)] ++ [Ob.lst ((rlsOf b due).map natD)])))[A.length + 2 + g.length]? = some (.lst (op.map opD)) := ko d' op
  refine pick_w (row := op.map opD) (by rw [List.length_map]; exact opl) (by rw [List.length_map]; omega) hrow fun x hx d2 => ?_
  obtain ⟨⟨mo, n⟩, hop, rfl⟩ := List.mem_map.mp hx
  obtain ⟨rr, hrr, hrn, hin, hmo, hsp⟩ := p4 _ hop
  simp only at hrr hmo hsp
  have hn : n < b.rls.length := (List.getElem?_eq_some_iff.mp hrr).1
  have hrr2 : b.rls[n] = rr := (List.getElem?_eq_some_iff.mp hrr).2
  have hsl := hs rr (List.mem_of_getElem? hrr)
  have k1 := at_rl hn
  rw [hrr2] at k1
  generalize g ++ [Ob.lst (op.map opD)] ++ [Ob.lst ((rlsOf b due).map natD)] = g2
  have kr2 : (d2.st (A ++ [.lst (rows.map rwD)] ++ ([.lst (w.reverse.map D.str)] ++ g2)))[A.length + 2]? = some (.lst (rows.map rwD)) := bst_r
  mul_fits
  refine v_app kr2 (Nat.lt_of_lt_of_le (Nat.lt_succ_self _) (by rw [List.length_map]; exact le_size (by omega))) ?_
  rw [show (d2.st (A ++ [.lst (rows.map rwD)] ++ ([.lst (w.reverse.map D.str)] ++ g2))) = bst d2 A rows w g2 from rfl, bst_sr (rows' := rows ++ [(n, rr.sl.length)]) (by rw [List.map_append, List.length_map]; rfl)]
  have bd2 : bd62 0 ∧ bd62 ((rr.sl.map Sl.d).length : Int) := by rw [List.length_map]; unfold bd62; omega
  mul_fits
  rw [rgD_0, List.length_map]
  have spn : ∃ sp' : Nat, (sp : Int) - mo = (sp' : Int) := Int.eq_ofNat_of_zero_le (by omega)
  obtain ⟨sp', esp⟩ := spn
  rw [esp]
  have hmo2 : (sp' : Int) = (sp : Int) - (1 + (smL L rr : Int) - (lv : Int)) := by rw [← hmo]; exact esp.symm
  have nl : (rr.sl.map (·.nm)).length = rr.sl.length := List.length_map _
  have ns_in : ∀ s ∈ rr.sl.map (·.nm), ∃ v, gS L s = some v := fun s hs => by
    obtain ⟨x, hx, rfl⟩ := List.mem_map.mp hs
    exact inL_iff.mp hin x hx
  refine loopS_w (fun ds ρ S' => ∃ (c m : Nat) (o14 : Option D), c + m = rr.sl.length ∧ ds = (List.range' c m).map natD ∧ S' = bst d2 A (rows ++ [(n, rr.sl.length)]) (((rr.sl.map (·.nm)).reverse.take c).reverse ++ w) g2 ∧ ρ = [some (.ref 1), some b.d, some (.str nm), some (natD most), some (.ref (R.length + 2)), some (natD sp'), some (.ref (A.length + 2)), some (.ref (A.length + 1 + 2)), some (natD q), some (.str due), some (.ref (A.length + 2 + g.length + 2)), some (natD n), some (.tup (rr.sl.map Sl.d)), some (.int mo), o14, none]) ?_ ?_ _ _ _ ⟨0, rr.sl.length, o14, by omega, rfl, by simp, rfl⟩
  · rintro e ds ρ S' ⟨c, m, o14, hcm, hds, rfl, rfl⟩
    refine ⟨trivial, ?_⟩
    cases m with
    | zero => exact absurd hds (by simp)
    | succ m =>
    rw [rg'_cons, List.map_cons, List.cons.injEq] at hds
    obtain ⟨rfl, rfl⟩ := hds
    have hm' : m < rr.sl.length := by omega
    have ei : ((rr.sl.map Sl.d).length : Int) - 1 - (c : Int) = (m : Int) := by rw [List.length_map]; omega
    have ka : atI (rr.sl.map Sl.d) (m : Int) = some (rr.sl[m]).d := at_map _ _ _ hm'
    have kw := bst_w (d := d2) (A := A) (rows := rows ++ [(n, rr.sl.length)]) (wt := ((rr.sl.map (·.nm)).reverse.take c).reverse ++ w) (g := g2)
    simp only [b__law_build_6]
    mul_fits
    rw [ei]
    mul_fits
    have wl2 : w.length + 1 ≤ max v most := by
      rw [List.length_cons] at wl
      omega
    refine v_app kw (Nat.lt_of_lt_of_le (Nat.lt_succ_self _) (by
      rw [List.length_map, List.length_reverse, List.length_append, List.length_reverse, List.length_take]
      exact le_size (by omega))) ?_
    rw [bst_sw (wt' := ((rr.sl.map (·.nm)).reverse.take (c + 1)).reverse ++ w) (by
      have e5 : (rr.sl.map (·.nm)).reverse.take (c + 1) = (rr.sl.map (·.nm)).reverse.take c ++ [(rr.sl[m]).nm] := by
        have hc : c < (rr.sl.map (·.nm)).reverse.length := by rw [List.length_reverse, nl]; omega
        rw [List.take_succ_eq_append_getElem hc, List.getElem_reverse, List.getElem_map]
        congr 4
        rw [nl]
        omega
      rw [e5]
      simp)]
    mul_fits
    exact ⟨_, .inl rfl, c + 1, m, _, by omega, rfl, rfl, rfl⟩
  rintro ρ S' ⟨c, m, o14, hcm, hds, rfl, rfl⟩
  refine ⟨trivial, ?_⟩
  cases m with
  | succ m => exact absurd hds (by simp [rg'_cons])
  | zero =>
  have hc : c = (rr.sl.map (·.nm)).reverse.length := by rw [List.length_reverse, nl]; omega
  rw [hc, List.take_length, List.reverse_reverse]
  mul_fits
  refine ⟨rows ++ [(n, rr.sl.length)], rr.sl.map (·.nm) ++ w, g2, sp', _, _, _, _, _, _, _, d2, rfl, rfl, by simp; omega, fun s hs => ?_, ?_, fun rows' ts h1 h2 => ?_, fun p hp => ?_⟩
  · rcases List.mem_append.mp hs with hs | hs
    · exact ns_in s hs
    · exact i2' s hs
  · rw [sumL_app, sumL_sl, List.length_append]
    rw [es] at i3
    simp
    omega
  · obtain ⟨q1, q2⟩ := Wfs.split h2
    rw [nl] at q1 q2
    have hlen := h2.len
    have hle : rr.sl.length ≤ ts.length := by
      rw [hlen, List.length_append, nl]
      omega
    have hp : par ((n, rr.sl.length) :: rows') = some (.nd n (ts.take rr.sl.length) :: ts.drop rr.sl.length) := by
      rw [par, h1, Option.bind_some, if_pos hle]
    obtain ⟨t, t1, t2⟩ := i4 _ _ hp (by
      rw [Wfs]
      refine ⟨?_, q2⟩
      rw [Wf]
      exact ⟨rr, hrr, hrn, q1⟩)
    exact ⟨t, by rw [List.append_assoc]; exact t1, t2⟩
  · rcases List.mem_append.mp hp with hp | hp
    · exact i5 p hp
    · simp at hp
      subst hp
      exact hsl
end
def wOf (ws : List Nat) (i : Nat) : Nat := ws.getD i 0
structure WsOk (b : Bk) (ws : List Nat) : Prop where
  len : ws.length = b.rls.length
  lo : ∀ w ∈ ws, 1 ≤ w
  hi : ∀ w ∈ ws, w ≤ 300
theorem WsOk.at {b : Bk} {ws : List Nat} (o : WsOk b ws) {i : Nat} (h : i < b.rls.length) : atI (ws.map natD) (i : Int) = some (natD (wOf ws i)) ∧ 1 ≤ wOf ws i ∧ wOf ws i ≤ 300 := by
  have h' : i < ws.length := by rw [o.len]; exact h
  have e : wOf ws i = ws[i] := by simp [wOf, List.getD, h']
  rw [e]
  exact ⟨at_map _ _ _ h', o.lo _ (List.getElem_mem h'), o.hi _ (List.getElem_mem h')⟩
theorem sum_bd {α : Type} {f : α → Nat} {c : Nat} : ∀ {l : List α}, (∀ x ∈ l, f x ≤ c) → (l.map f).sum ≤ l.length * c
  | [], _ => by simp
  | x :: l, h => by
    rw [List.map_cons, List.sum_cons, List.length_cons, Nat.succ_mul]
    have := h x (by simp)
    have := sum_bd (l := l) fun y hy => h y (by simp [hy])
    omega
section
variable {k : Nat} {S : Sto} {Q : D → Sto → Prop} {b : Bk} {ws : List Nat}
theorem is_number_w {i : Int} (h : Q (.bl true) S) : W (orc T (k + 1) n_is_number [.int i] S) Q := by
  refine orc_w (ρ := [some (.int i)]) rfl rfl rfl ?_
  show W (evSs _ b_is_number _ _) _
  simp only [b_is_number]
  mul_fits
  exact h
theorem is_between_w {i lo hi : Int} (h1 : lo ≤ i) (h2 : i ≤ hi) (h : Q (.bl true) S) : W (orc T (k + 2) n_is_between [.int i, .int lo, .int hi] S) Q := by
  refine orc_w (ρ := [some (.int i), some (.int lo), some (.int hi)]) rfl rfl rfl ?_
  show W (evSs _ b_is_between _ _) _
  simp only [b_is_between]
  mul_fits
  refine is_number_w ?_
  mul_fits
  refine w_chnB (fun _ => ?_) fun c => ?_
  · mul_fits
    rw [decide_eq_true h2]
    exact h
  · exact absurd h1 (of_decide_eq_false c)
theorem rule_at_w {i : Nat} (hi : i < b.rls.length) (h : Q (b.rls[i]).d S) : W (orc T (k + 3) n_rule_at [b.d, natD i] S) Q := by
  refine orc_w (ρ := [some b.d, some (natD i)]) rfl rfl rfl ?_
  show W (evSs _ b_rule_at _ _) _
  simp only [b_rule_at]
  mul_fits
  refine is_between_w (by omega) (by rw [List.length_map]; omega) ?_
  have k1 := at_rl hi
  mul_fits
  simp only [b_rule_at_1]
  mul_fits
  exact h
theorem slots_of_w {i : Nat} (hi : i < b.rls.length) (h : Q (.tup ((b.rls[i]).sl.map Sl.d)) S) : W (orc T (k + 4) n_slots_of [b.d, natD i] S) Q := by
  refine orc_w (ρ := [some b.d, some (natD i)]) rfl rfl rfl ?_
  show W (evSs _ b_slots_of _ _) _
  simp only [b_slots_of]
  mul_fits
  refine rule_at_w hi ?_
  mul_fits
  exact h
end
def leafB (b : Bk) (s : Str) : Bool := b.rls.any fun r => decide (r.nm = s) && r.sl.isEmpty
theorem fold_le (rs : List Rl) (l : Ls) : LeL l (rs.foldl stp l) := foldl_inv (LeL l) _ _ .refl fun r _ m h => h.trans (stp_le m r)
theorem stp_at {l : Ls} {r : Rl} (hi : inL l r = true) : ∃ w, gS (stp l r) r.nm = some w ∧ w ≤ 1 + smL l r := by
  unfold stp
  rw [if_pos hi]
  split
  · exact ⟨_, by rw [gS_pS, if_pos rfl], Nat.le_refl _⟩
  · rename_i w e
    split
    · exact ⟨_, by rw [gS_pS, if_pos rfl], Nat.le_refl _⟩
    · exact ⟨w, e, by omega⟩
theorem trn_at {b : Bk} {l : Ls} {r : Rl} (hr : r ∈ b.rls) (hi : inL l r = true) : ∃ w, gS (trn b l) r.nm = some w ∧ w ≤ 1 + smL l r := by
  obtain ⟨as, bs, e⟩ := List.append_of_mem hr
  unfold trn
  rw [e, List.foldl_append, List.foldl_cons]
  obtain ⟨h1, h2⟩ := inL_le (fold_le as l) hi
  obtain ⟨w, e1, e2⟩ := stp_at h1
  obtain ⟨w', e3, e4⟩ := fold_le bs _ _ _ e1
  exact ⟨w', e3, by omega⟩
theorem leaf_at {b : Bk} {s : Str} (h : leafB b s = true) : ∃ u, gS (lsts b 1) s = some u ∧ u ≤ 1 := by
  obtain ⟨r, hr, q⟩ := List.any_eq_true.mp h
  simp only [Bool.and_eq_true, decide_eq_true_eq, List.isEmpty_iff] at q
  obtain ⟨q1, q2⟩ := q
  have hi : inL [] r = true := by simp [inL, q2]
  obtain ⟨w, e1, e2⟩ := trn_at hr hi
  rw [q1] at e1
  exact ⟨w, e1, by simpa [smL, q2] using e2⟩
inductive Gt where
  | nd (x : D) (ks : List Gt)
def Gt.d : Gt → D
  | .nd x _ => x
def Gt.kids : Gt → List Gt
  | .nd _ ks => ks
mutual
def Gt.pre : Gt → List Gt
  | .nd n ps => .nd n ps :: gpres ps
def gpres : List Gt → List Gt
  | [] => []
  | t :: r => t.pre ++ gpres r
end
theorem gpre_eq (t : Gt) : t.pre = t :: gpres t.kids := by
  cases t
  rw [Gt.pre]
  rfl
def gstarts : Nat → List Gt → List Nat
  | _, [] => []
  | s, t :: r => s :: gstarts (s + t.pre.length) r
theorem gstarts_len : ∀ (s : Nat) (ps : List Gt), (gstarts s ps).length = ps.length
  | _, [] => rfl
  | s, t :: r => by rw [gstarts, List.length_cons, List.length_cons, gstarts_len]
/-- where those that wait will stand -/
def gpend (i : Nat) : Nat → List (Gt × Int) → List Nat
  | _, [] => []
  | s, (t, a) :: w => (if a = (i : Int) then [s] else []) ++ gpend i (s + t.pre.length) w
theorem gpend_none {i : Nat} : ∀ {s : Nat} {w : List (Gt × Int)}, (∀ p ∈ w, p.2 ≠ (i : Int)) → gpend i s w = []
  | _, [], _ => rfl
  | s, (t, a) :: w, h => by
    rw [gpend, if_neg (h (t, a) (by simp)), gpend_none fun p hp => h p (by simp [hp])]
    rfl
theorem gpend_kids {i : Nat} : ∀ (s : Nat) (ps : List Gt) (w : List (Gt × Int)), gpend i s (ps.map (fun y => (y, (i : Int))) ++ w) = gstarts s ps ++ gpend i (s + (gpres ps).length) w
  | s, [], w => by simp [gstarts, gpres]
  | s, t :: r, w => by
    rw [List.map_cons, List.cons_append, gpend, if_pos rfl, gpend_kids _ r w, gstarts, gpres, List.length_append]
    simp [Nat.add_assoc]
theorem gpend_other {i j : Nat} (h : j ≠ i) : ∀ (s : Nat) (ps : List Gt) (w : List (Gt × Int)), gpend i s (ps.map (fun y => (y, (j : Int))) ++ w) = gpend i (s + (gpres ps).length) w
  | s, [], w => by simp [gpres]
  | s, t :: r, w => by
    rw [List.map_cons, List.cons_append, gpend, if_neg (by omega), gpend_other h _ r w, gpres, List.length_append]
    simp [Nat.add_assoc]
abbrev gwpre (w : List (Gt × Int)) : List Gt := w.flatMap fun p => p.1.pre
theorem gwpre_kids (a : Int) : ∀ ps : List Gt, gwpre (ps.map fun y => (y, a)) = gpres ps
  | [] => rfl
  | t :: r => by
    rw [List.map_cons, gpres]
    show List.flatMap _ _ = _
    rw [List.flatMap_cons]
    congr 1
    exact gwpre_kids a r
structure GFS (t : Gt) (ns : List Gt) (js : List Nat) (cs : List (List Nat)) (wt : List (Gt × Int)) (g : Sto) : Prop where
  jl : js.length = ns.length
  cl : cs.length = ns.length
  inc : js.Pairwise (· < ·)
  jlt : ∀ j ∈ js, j < g.length
  cell : ∀ (i j : Nat) (c : List Nat), js[i]? = some j → cs[i]? = some c → g[j]? = some (.lst (c.map natD))
  ab : ∀ p ∈ wt, p.2 = -1 ∨ ∃ a : Nat, p.2 = (a : Int) ∧ a < ns.length
  pre : ns ++ gwpre wt = t.pre
  fin : ∀ (i : Nat) (x : Gt) (c : List Nat), ns[i]? = some x → cs[i]? = some c → c ++ gpend i ns.length wt = gstarts (i + 1) x.kids
theorem GFS.start (t : Gt) : GFS t [] [] [] [(t, -1)] [] := ⟨rfl, rfl, .nil, by simp, fun _ _ _ h => by simp at h, fun p hp => by simp at hp; subst hp; exact .inl rfl, by simp [gwpre], fun _ _ _ h => by simp at h⟩
theorem GFS.len {t : Gt} {ns : List Gt} {js : List Nat} {cs : List (List Nat)} {x : Gt} {a : Int} {w : List (Gt × Int)} {g : Sto} (h : GFS t ns js cs ((x, a) :: w) g) : ns.length < t.pre.length := by
  have := congrArg List.length h.pre
  rw [List.length_append] at this
  have e : gwpre ((x, a) :: w) = x.pre ++ gwpre w := rfl
  rw [e, gpre_eq, List.length_append, List.length_cons] at this
  omega
theorem GFS.mem {t : Gt} {ns : List Gt} {js : List Nat} {cs : List (List Nat)} {x : Gt} {a : Int} {w : List (Gt × Int)} {g : Sto} (h : GFS t ns js cs ((x, a) :: w) g) : x ∈ t.pre := by
  rw [← h.pre]
  have e : gwpre ((x, a) :: w) = x.pre ++ gwpre w := rfl
  rw [e, gpre_eq]
  simp
/-- a node goes from those that wait to those that are told -/
theorem GFS.go {t : Gt} {ns : List Gt} {js : List Nat} {cs cs' : List (List Nat)} {x : Gt} {a : Int} {w : List (Gt × Int)} {g g' : Sto} (h : GFS t ns js cs ((x, a) :: w) g) (g2 : Sto) (hl : g'.length = g.length) (hcl : cs'.length = cs.length)
    (hcell : ∀ (i j : Nat) (c : List Nat), js[i]? = some j → cs'[i]? = some c → g'[j]? = some (.lst (c.map natD)))
    (hc : ∀ (i : Nat) (c' : List Nat), cs'[i]? = some c' → ∃ c, cs[i]? = some c ∧ c' = c ++ (if a = (i : Int) then [ns.length] else [])) :
    GFS t (ns ++ [x]) (js ++ [(g' ++ g2).length]) (cs' ++ [[]]) (x.kids.map (fun y => (y, (ns.length : Int))) ++ w) (g' ++ g2 ++ [.lst []]) := by
  have e : gwpre ((x, a) :: w) = x :: gpres x.kids ++ gwpre w := by
    show x.pre ++ gwpre w = _
    rw [gpre_eq]
  have hab : ∀ p ∈ w, p.2 ≠ (ns.length : Int) := fun p hp => by
    rcases h.ab p (by simp [hp]) with e | ⟨b, e, hb⟩ <;> omega
  refine ⟨by simp [h.jl], by simp [hcl, h.cl], ?_, fun j hj => ?_, fun i j c h1 h2 => ?_, fun p hp => ?_, ?_, fun i y c h1 h2 => ?_⟩
  · rw [List.pairwise_append]
    refine ⟨h.inc, by simp, fun j hj k hk => ?_⟩
    simp at hk
    have := h.jlt j hj
    omega
  · rcases List.mem_append.mp hj with hj | hj
    · have := h.jlt j hj
      simp
      omega
    · simp at hj
      simp
      omega
  · by_cases hi : i < js.length
    · rw [List.getElem?_append_left hi] at h1
      rw [List.getElem?_append_left (by rw [hcl, h.cl, ← h.jl]; exact hi)] at h2
      rw [List.append_assoc]
      exact get_pre (hcell i j c h1 h2)
    · have hi2 : i = js.length := by
        have := (List.getElem?_eq_some_iff.mp h1).1
        simp at this
        omega
      subst hi2
      rw [List.getElem?_append_right (Nat.le_refl _), Nat.sub_self] at h1
      rw [show js.length = cs'.length by rw [h.jl, hcl, h.cl], List.getElem?_append_right (Nat.le_refl _), Nat.sub_self] at h2
      cases h1
      cases h2
      exact get_end _ _
  · rcases List.mem_append.mp hp with hp | hp
    · obtain ⟨y, _, rfl⟩ := List.mem_map.mp hp
      exact .inr ⟨ns.length, rfl, by simp⟩
    · rcases h.ab p (by simp [hp]) with e | ⟨b, e, hb⟩
      · exact .inl e
      · exact .inr ⟨b, e, by simp; omega⟩
  · rw [← h.pre, e]
    show ns ++ [x] ++ List.flatMap _ _ = _
    rw [List.flatMap_append]
    have := gwpre_kids (ns.length : Int) x.kids
    show ns ++ [x] ++ (gwpre _ ++ gwpre w) = _
    rw [this]
    simp
  · by_cases hi : i < ns.length
    · rw [List.getElem?_append_left hi] at h1
      rw [List.getElem?_append_left (by rw [hcl, h.cl]; exact hi)] at h2
      obtain ⟨c0, hc0, rfl⟩ := hc i c h2
      have := h.fin i y c0 h1 hc0
      rw [gpend] at this
      rw [List.length_append, List.length_singleton, gpend_other (by omega), ← this, List.append_assoc]
      congr 3
      rw [gpre_eq, List.length_cons]
      omega
    · have hi2 : i = ns.length := by
        have := (List.getElem?_eq_some_iff.mp h1).1
        simp at this
        omega
      subst hi2
      rw [List.getElem?_append_right (Nat.le_refl _), Nat.sub_self] at h1
      rw [show ns.length = cs'.length by rw [hcl, h.cl], List.getElem?_append_right (Nat.le_refl _), Nat.sub_self] at h2
      cases h1
      cases h2
      rw [List.length_append, List.length_singleton, gpend_kids, gpend_none hab, List.append_nil]
      rfl
theorem GFS.root {t : Gt} {ns : List Gt} {js : List Nat} {cs : List (List Nat)} {x : Gt} {w : List (Gt × Int)} {g : Sto} (h : GFS t ns js cs ((x, -1) :: w) g) (g2 : Sto) :
    GFS t (ns ++ [x]) (js ++ [(g ++ g2).length]) (cs ++ [[]]) (x.kids.map (fun y => (y, (ns.length : Int))) ++ w) (g ++ g2 ++ [.lst []]) :=
  h.go g2 rfl rfl h.cell fun i c' hc => ⟨c', hc, by rw [if_neg (by omega), List.append_nil]⟩
theorem GFS.kid {t : Gt} {ns : List Gt} {js : List Nat} {cs : List (List Nat)} {x : Gt} {a : Nat} {w : List (Gt × Int)} {g : Sto} (h : GFS t ns js cs ((x, (a : Int)) :: w) g) : ∃ j c, js[a]? = some j ∧ cs[a]? = some c ∧ g[j]? = some (.lst (c.map natD)) ∧ j < g.length ∧ (∃ y ∈ t.pre, c.length ≤ y.kids.length) ∧
    ∀ g2 : Sto, GFS t (ns ++ [x]) (js ++ [(g.set j (.lst ((c ++ [ns.length]).map natD)) ++ g2).length]) (cs.set a (c ++ [ns.length]) ++ [[]]) (x.kids.map (fun y => (y, (ns.length : Int))) ++ w) (g.set j (.lst ((c ++ [ns.length]).map natD)) ++ g2 ++ [.lst []]) := by
  have ha : a < ns.length := by
    rcases h.ab _ List.mem_cons_self with e | ⟨b, e, hb⟩ <;> simp at e <;> omega
  have hj : a < js.length := by rw [h.jl]; exact ha
  have hcl : a < cs.length := by rw [h.cl]; exact ha
  have h1 := List.getElem?_eq_getElem hj
  have h2 := List.getElem?_eq_getElem hcl
  have h3 := List.getElem?_eq_getElem ha
  have hcell := h.cell _ _ _ h1 h2
  have hjlt := h.jlt _ (List.getElem_mem hj)
  refine ⟨js[a], cs[a], h1, h2, hcell, hjlt, ⟨ns[a], ?_, ?_⟩, fun g2 => h.go g2 (List.length_set) (List.length_set) (fun i j c q1 q2 => ?_) fun i c' hc => ?_⟩
  · rw [← h.pre]
    exact List.mem_append_left _ (List.getElem_mem ha)
  · have := congrArg List.length (h.fin _ _ _ h3 h2)
    rw [List.length_append, gstarts_len] at this
    omega
  · by_cases hi : i = a
    · subst hi
      rw [h1] at q1
      cases q1
      rw [List.getElem?_set_self hcl] at q2
      cases q2
      exact List.getElem?_set_self hjlt
    · rw [List.getElem?_set_ne (Ne.symm hi)] at q2
      have hne : js[a] ≠ j := fun z => by
        have hi2 := (List.getElem?_eq_some_iff.mp q1).1
        have e2 := (List.getElem?_eq_some_iff.mp q1).2
        have := List.pairwise_iff_getElem.mp h.inc
        rcases Nat.lt_or_gt_of_ne hi with q | q
        · have := this i a hi2 hj q
          omega
        · have := this a i hj hi2 q
          omega
      rw [List.getElem?_set_ne hne]
      exact h.cell i j c q1 q2
  · by_cases hi : i = a
    · subst hi
      rw [List.getElem?_set_self hcl] at hc
      cases hc
      exact ⟨cs[i], h2, by rw [if_pos rfl]⟩
    · rw [List.getElem?_set_ne (Ne.symm hi)] at hc
      exact ⟨c', hc, by rw [if_neg (by omega), List.append_nil]⟩
theorem GFS.done {t : Gt} {ns : List Gt} {js : List Nat} {cs : List (List Nat)} {g : Sto} (h : GFS t ns js cs [] g) : ns = t.pre ∧ ∀ (i j : Nat) (x : Gt), js[i]? = some j → t.pre[i]? = some x → g[j]? = some (.lst ((gstarts (i + 1) x.kids).map natD)) := by
  have e : ns = t.pre := by
    have := h.pre
    simpa [gwpre] using this
  refine ⟨e, fun i j x h1 h2 => ?_⟩
  rw [← e] at h2
  have hi : i < cs.length := by rw [h.cl]; exact (List.getElem?_eq_some_iff.mp h2).1
  have h3 := List.getElem?_eq_getElem hi
  have := h.fin i x _ h2 h3
  rw [gpend, List.append_nil] at this
  rw [← this]
  exact h.cell i j _ h1 h3

abbrev gwD (p : Gt × Int) : D := .tup [p.1.d, .int p.2]
abbrev gst_ (S : Sto) (ns : List Gt) (js : List Nat) (wt : List (Gt × Int)) (g : Sto) : Sto := S ++ [.lst (ns.map Gt.d)] ++ ([.lst (js.map fun j => D.ref (S.length + 3 + j))] ++ ([.lst (wt.reverse.map gwD)] ++ g))
structure GFlat (S G : Sto) (t : Gt) (a b : Nat) : Prop where
  na : (S ++ G)[a]? = some (.lst (t.pre.map Gt.d))
  nb : ∃ rs : List Nat, (S ++ G)[b]? = some (.lst (rs.map D.ref)) ∧ rs.length = t.pre.length ∧ ∀ (i r : Nat) (x : Gt), rs[i]? = some r → t.pre[i]? = some x → (S ++ G)[r]? = some (.lst ((gstarts (i + 1) x.kids).map natD))
theorem GFlat.pre {S G g : Sto} {t : Gt} {a b : Nat} (h : GFlat S G t a b) : GFlat S (G ++ g) t a b := by
  obtain ⟨h1, rs, h2, h3, h4⟩ := h
  refine ⟨by rw [← List.append_assoc]; exact get_pre h1, rs, by rw [← List.append_assoc]; exact get_pre h2, h3, fun i r x q1 q2 => by rw [← List.append_assoc]; exact get_pre (h4 i r x q1 q2)⟩
section
variable {k : Nat} {S : Sto} {Q : D → Sto → Prop} {ns : List Gt} {js : List Nat} {wt : List (Gt × Int)} {g : Sto} {t : Gt}
theorem gf_n : (gst_ S ns js wt g)[S.length]? = some (.lst (ns.map Gt.d)) := get_mid _ _ _
theorem gf_b : (gst_ S ns js wt g)[S.length + 1]? = some (.lst (js.map fun j => D.ref (S.length + 3 + j))) := by
  show (_ ++ _)[_]? = _
  rw [← List.append_assoc, show S.length + 1 = (S ++ [Ob.lst (ns.map Gt.d)]).length by simp]
  exact get_mid _ _ _
theorem gf_w : (gst_ S ns js wt g)[S.length + 2]? = some (.lst (wt.reverse.map gwD)) := by
  show (_ ++ _)[_]? = _
  rw [← List.append_assoc, ← List.append_assoc, show S.length + 2 = (S ++ [Ob.lst (ns.map Gt.d)] ++ [Ob.lst (js.map fun j => D.ref (S.length + 3 + j))]).length by simp]
  exact get_mid _ _ _
theorem gf_g {j : Nat} : (gst_ S ns js wt g)[S.length + 3 + j]? = g[j]? := by
  show (_ ++ _)[_]? = _
  rw [← List.append_assoc, ← List.append_assoc, List.getElem?_append_right (by simp)]
  congr 1
  simp
theorem gf_sn {l : List D} {ns' : List Gt} (h : l = ns'.map Gt.d) : (gst_ S ns js wt g).set S.length (.lst l) = gst_ S ns' js wt g := by
  subst h
  exact set_mid _ _ _ _
theorem gf_sb {l : List D} {js' : List Nat} (h : l = js'.map fun j => D.ref (S.length + 3 + j)) : (gst_ S ns js wt g).set (S.length + 1) (.lst l) = gst_ S ns js' wt g := by
  subst h
  show List.set (_ ++ _) _ _ = _ ++ _
  rw [← List.append_assoc, show S.length + 1 = (S ++ [Ob.lst (ns.map Gt.d)]).length by simp, set_mid, List.append_assoc]
theorem gf_sw {l : List D} {wt' : List (Gt × Int)} (h : l = wt'.reverse.map gwD) : (gst_ S ns js wt g).set (S.length + 2) (.lst l) = gst_ S ns js wt' g := by
  subst h
  show List.set (_ ++ _) _ _ = _ ++ _
  rw [← List.append_assoc, ← List.append_assoc, show S.length + 2 = (S ++ [Ob.lst (ns.map Gt.d)] ++ [Ob.lst (js.map fun j => D.ref (S.length + 3 + j))]).length by simp, set_mid, List.append_assoc, List.append_assoc]
theorem gf_sg {j : Nat} {o : Ob} : (gst_ S ns js wt g).set (S.length + 3 + j) o = gst_ S ns js wt (g.set j o) := by
  show List.set (_ ++ _) _ _ = _ ++ _
  rw [← List.append_assoc, ← List.append_assoc, List.set_append_right _ _ (by simp), List.append_assoc, List.append_assoc]
  congr 4
  simp
theorem gf_app {g2 : Sto} : gst_ S ns js wt g ++ g2 = gst_ S ns js wt (g ++ g2) := by
  show _ ++ _ ++ g2 = _ ++ _
  simp
theorem gf_len : (gst_ S ns js wt g).length = S.length + 3 + g.length := by
  show List.length (_ ++ _) = _
  simp
  omega
theorem GFS.wlen {cs : List (List Nat)} (h : GFS t ns js cs wt g) : ns.length + wt.length ≤ t.pre.length := by
  have e := congrArg List.length h.pre
  rw [List.length_append] at e
  have : ∀ w : List (Gt × Int), w.length ≤ (gwpre w).length := by
    intro w
    induction w with
    | nil => simp
    | cons p w ih =>
      show _ ≤ (p.1.pre ++ gwpre w).length
      rw [List.length_append, gpre_eq, List.length_cons, List.length_cons]
      omega
  have := this wt
  omega
theorem GFS.res {cs : List (List Nat)} (h : GFS t ns js cs [] g) (g2 : Sto) : GFlat S ([.lst (ns.map Gt.d)] ++ ([.lst (js.map fun j => D.ref (S.length + 3 + j))] ++ ([.lst (([] : List (Gt × Int)).reverse.map gwD)] ++ g)) ++ g2) t S.length (S.length + 1) := by
  obtain ⟨e, fin⟩ := h.done
  have es : S ++ ([.lst (ns.map Gt.d)] ++ ([.lst (js.map fun j => D.ref (S.length + 3 + j))] ++ ([.lst (([] : List (Gt × Int)).reverse.map gwD)] ++ g)) ++ g2) = gst_ S ns js [] g ++ g2 := by
    show _ = _ ++ _ ++ g2
    simp
  subst e
  refine ⟨by rw [es]; exact get_pre gf_n, js.map fun j => S.length + 3 + j, by rw [es, List.map_map]; exact get_pre gf_b, by rw [List.length_map, h.jl], fun i r x h1 h2 => ?_⟩
  rw [List.getElem?_map, Option.map_eq_some_iff] at h1
  obtain ⟨j, hj, rfl⟩ := h1
  rw [es]
  refine get_pre ?_
  rw [gf_g]
  exact fin i j x hj h2
theorem gpopW {p : Gt × Int} {w : List (Gt × Int)} : ((p :: w).reverse.map gwD)[((p :: w).reverse.map gwD).length - 1]? = some (gwD p) ∧ ((p :: w).reverse.map gwD).dropLast = w.reverse.map gwD := by
  rw [List.reverse_cons, List.map_append]
  simp
/-- the law's parts of a node -/
def LParts (k : Nat) (x : Gt) : Prop := ∀ (S : Sto) (Q : D → Sto → Prop), Q (.ref S.length) (S ++ [.lst (x.kids.map Gt.d)]) → W (orc T (k + 1) n__law_parts [x.d] S) Q
theorem glflat_w (hP : ∀ x ∈ t.pre, LParts k x) (hz : t.pre.length ≤ 3000) (hk : ∀ x ∈ t.pre, x.kids.length ≤ 10) (h : ∀ (G : Sto) (a b c : Nat), GFlat S G t a b → (S ++ G)[c]? = some (.lst [.ref a, .ref b]) → Q (.ref c) (S ++ G)) : W (orc T (k + 2) n__law_flat [t.d] S) Q := by
  refine orc_w (ρ := [some t.d, none, none, none, none, none, none, none]) rfl rfl rfl ?_
  show W (evSs _ b__law_flat _ _) _
  simp only [b__law_flat]
  mul_fits
  have e0 : S ++ [Ob.lst []] ++ [Ob.lst []] ++ [Ob.lst [D.tup [t.d, D.int (-1)]]] = gst_ S [] [] [(t, -1)] [] := by
    show _ = _ ++ _
    simp
  rw [e0, show rgD 0 5000 = (List.range 5000).map natD from rgD0 5000, show (S ++ [Ob.lst []]).length = S.length + 1 by simp, show (S ++ [Ob.lst []] ++ [Ob.lst []]).length = S.length + 2 by simp]
  refine loopS_re natD (fun r ρ S' => ∃ (ns : List Gt) (js : List Nat) (cs : List (List Nat)) (wt : List (Gt × Int)) (g : Sto) (o4 o5 o6 : Option D), S' = gst_ S ns js wt g ∧ ρ = [some t.d, some (.ref S.length), some (.ref (S.length + 1)), some (.ref (S.length + 2)), o4, o5, o6, none] ∧ GFS t ns js cs wt g ∧ ns.length + r.length = 5000) ?_ ?_ _ _ _ ⟨[], [], [], [(t, -1)], [], _, _, _, rfl, rfl, .start t, by simp⟩
  rotate_left
  · rintro ρ S' ⟨ns, js, cs, wt, g, o4, o5, o6, rfl, rfl, fs, hl⟩
    exfalso
    have := fs.wlen
    simp at hl
    omega
  rintro q r ρ S' ⟨ns, js, cs, wt, g, o4, o5, o6, rfl, rfl, fs, hl⟩
  refine ⟨trivial, ?_⟩
  rw [List.length_cons] at hl
  have wl := fs.wlen
  have sqw : sqOf (gst_ S ns js wt g) (.val (.ref (S.length + 2))) = some (wt.reverse.map gwD) := by simp only [sqOf, lsOf, gf_w]
  simp only [b__law_flat_1]
  mul_fits
  cases wt with
  | nil =>
    refine w_ifd (fun c => ?_) fun c => (c (by simp)).elim
    mul_fits
    have e : gst_ S ns js [] g ++ [Ob.lst [D.ref S.length, D.ref (S.length + 1)]] = S ++ ([.lst (ns.map Gt.d)] ++ ([.lst (js.map fun j => D.ref (S.length + 3 + j))] ++ ([.lst (([] : List (Gt × Int)).reverse.map gwD)] ++ g)) ++ [Ob.lst [D.ref S.length, D.ref (S.length + 1)]]) := by
      show _ ++ _ ++ _ = _
      simp
    have ge := get_end (gst_ S ns js [] g) (Ob.lst [D.ref S.length, D.ref (S.length + 1)])
    rw [gf_len] at ge ⊢
    rw [e] at ge ⊢
    rw [gc_out (by simp [below]; omega)]
    exact w_ok (h _ _ _ _ (fs.res _) ge)
  | cons p w =>
  obtain ⟨x, a⟩ := p
  refine w_ifd (fun c => ?_) fun c => ?_
  · exfalso
    simp at c
    omega
  mul_fits
  simp only [b__law_flat_2]
  have pw := gpopW (p := (x, a)) (w := w)
  have hx := fs.mem
  have hxk := hk x hx
  have hlt := fs.len
  rw [List.length_cons] at wl
  mul_fits
  refine v_pop gf_w pw.1 ?_
  rw [gf_sw (wt' := w) pw.2]
  mul_fits
  have sqn : ∀ (js : List Nat) (w : List (Gt × Int)) (g : Sto), sqOf (gst_ S ns js w g) (.val (.ref S.length)) = some (ns.map Gt.d) := fun js w g => by simp only [sqOf, lsOf, gf_n]
  -- what follows the test
  have fin : ∀ (cs' : List (List Nat)) (g' : Sto), (∀ g2 : Sto, GFS t (ns ++ [x]) (js ++ [(g' ++ g2).length]) cs' (x.kids.map (fun y => (y, (ns.length : Int))) ++ w) (g' ++ g2 ++ [.lst []])) → ∀ (C1 : Fl → Sto → Prop), (∀ (js' : List Nat) (wt' : List (Gt × Int)) (gg : Sto), GFS t (ns ++ [x]) js' cs' wt' gg → C1 (.nx [some t.d, some (.ref S.length), some (.ref (S.length + 1)), some (.ref (S.length + 2)), some (natD q), some x.d, some (.int a), none]) (gst_ S (ns ++ [x]) js' wt' gg)) →
      W (evSs (orc T (k + 1)) b__law_flat_3 [some t.d, some (.ref S.length), some (.ref (S.length + 1)), some (.ref (S.length + 2)), some (natD q), some x.d, some (.int a), none] (gst_ S ns js w g')) C1 := by
    intro cs' g' hf C1 hC
    have sqn1 := sqn js w (g' ++ [Ob.lst (x.kids.map Gt.d)])
    simp only [b__law_flat_3]
    mul_fits
    refine w_withL gf_w ?_
    mul_fits
    refine hP x hx _ _ ?_
    rw [gf_app, gf_len]
    have kp : (gst_ S ns js w (g' ++ [Ob.lst (x.kids.map Gt.d)]))[S.length + 3 + g'.length]? = some (.lst (x.kids.map Gt.d)) := by
      rw [gf_g]
      exact get_end _ _
    have lsp : lsOf (gst_ S ns js w (g' ++ [Ob.lst (x.kids.map Gt.d)])) (.val (.ref (S.length + 3 + g'.length))) = some (x.kids.map Gt.d) := by simp only [lsOf, kp]
    mul_fits
    try (refine w_may lsp ?_)
    mul_fits
    refine ⟨by rw [List.length_reverse, List.length_map]; exact le_size (by omega), ?_⟩
    rw [← List.map_reverse]
    refine loopQ_m Gt.d (fun y => gwD (y, (ns.length : Int))) (fun S' => S' = gst_ S ns js w (g' ++ [Ob.lst (x.kids.map Gt.d)])) _ (fun y _ S' e => ?_) (fun S' e => ?_) _ rfl
    · subst e
      refine ⟨trivial, ?_⟩
      mul_fits
      rw [List.length_map]
      exact ⟨rfl, rfl⟩
    subst e
    refine ⟨trivial, ?_⟩
    mul_fits
    refine v_ext (ds := w.reverse.map gwD) (es := x.kids.reverse.map fun y => gwD (y, (ns.length : Int))) gf_w rfl (by
      simp only [List.length_map, List.length_reverse]
      exact le_size (by omega)) ?_
    rw [gf_sw (wt' := x.kids.map (fun y => (y, (ns.length : Int))) ++ w) (by simp)]
    mul_fits
    have hf2 := hf [Ob.lst (x.kids.map Gt.d)]
    generalize (x.kids.map (fun y => (y, (ns.length : Int))) ++ w) = w' at hf2 ⊢
    generalize hg2 : g' ++ [Ob.lst (x.kids.map Gt.d)] = g2 at hf2 ⊢
    refine w_withL gf_n ?_
    mul_fits
    refine v_app (ds := ns.map Gt.d) gf_n (Nat.lt_of_lt_of_le (Nat.lt_succ_self _) (by rw [List.length_map]; exact le_size (by omega))) ?_
    rw [gf_sn (ns' := ns ++ [x]) (by rw [List.map_append]; rfl)]
    mul_fits
    refine w_withL gf_b ?_
    mul_fits
    rw [gf_app, gf_len]
    refine v_app (ds := js.map fun j => D.ref (S.length + 3 + j)) gf_b (Nat.lt_of_lt_of_le (Nat.lt_succ_self _) (by rw [List.length_map, fs.jl]; exact le_size (by omega))) ?_
    rw [gf_sb (js' := js ++ [g2.length]) (by rw [List.map_append]; rfl)]
    mul_fits
    exact hC _ _ _ hf2
  refine w_ifd (fun c => ?_) fun c => ?_
  · obtain ⟨a, rfl⟩ := Int.eq_ofNat_of_zero_le c
    obtain ⟨j, c0, h1, h2, h3, h4, ⟨y, hy, hy2⟩, h5⟩ := fs.kid
    have hyk := hk y hy
    have kg2 : (gst_ S ns js w g)[S.length + 3 + j]? = some (.lst (c0.map natD)) := by rw [gf_g]; exact h3
    have sqn1 := sqn js w g
    have ja := (List.getElem?_eq_some_iff.mp h1).1
    have kb : atI (js.map fun j => D.ref (S.length + 3 + j)) (a : Int) = some (.ref (S.length + 3 + j)) := by
      rw [at_map _ _ _ ja, (List.getElem?_eq_some_iff.mp h1).2]
    mul_fits
    refine v_idx gf_b kb ?_
    mul_fits
    rw [List.length_map]
    refine v_app kg2 (Nat.lt_of_lt_of_le (Nat.lt_succ_self _) (by rw [List.length_map]; exact le_size (by omega))) ?_
    rw [gf_sg]
    mul_fits
    have eo : Ob.lst (c0.map natD ++ [D.int (ns.length : Int)]) = .lst ((c0 ++ [ns.length]).map natD) := by rw [List.map_append]; rfl
    rw [eo]
    refine fin _ _ h5 _ fun js' wt' gg hf => ?_
    exact ⟨_, _, _, _, _, _, _, _, rfl, rfl, hf, by simp; omega⟩
  · have ea : a = -1 := by
      rcases fs.ab _ List.mem_cons_self with e | ⟨b, e, _⟩
      · exact e
      · exfalso
        simp at e
        omega
    subst ea
    mul_fits
    refine fin _ _ fs.root _ fun js' wt' gg hf => ?_
    exact ⟨_, _, _, _, _, _, _, _, rfl, rfl, hf, by simp; omega⟩
end
section
variable {k : Nat} {S : Sto} {Q : D → Sto → Prop} {t : Gt}
def GParts (x : Gt) : Prop := (x.d = .non ∧ x.kids = []) ∨ ∃ pre : List D, x.d = .tup (pre ++ [.tup (x.kids.map Gt.d)])
theorem gparts_ev {C : Orc} {ρ : En} {x : Gt} {v : Nat} (hv : ρ[v]? = some (some x.d)) (hx : GParts x) (h : Q (.tup (x.kids.map Gt.d)) S) : W (evE C (.ife (.v (.isN (.var v))) (.tup .nil) (.idx (.var v) (.neg (.lit (.int 1))))) ρ S) Q := by
  refine w_ife ?_
  refine w_tv (w_isN (w_var hv ?_))
  rcases hx with ⟨h1, h2⟩ | ⟨pre, h1⟩
  · rw [h1]
    mul_fits
    rw [h2] at h
    exact h
  · rw [h1] at hv ⊢
    mul_fits
    refine w_var hv ?_
    have := at_last pre (.tup (x.kids.map Gt.d))
    mul_fits
    exact h
theorem gflat_w (hP : ∀ x ∈ t.pre, GParts x) (hz : t.pre.length ≤ 3000) (hk : ∀ x ∈ t.pre, x.kids.length ≤ 10) (h : ∀ (G : Sto) (a b : Nat), GFlat S G t a b → S.length ≤ a → Q (.tup [.ref a, .ref b]) (S ++ G)) : W (orc T (k + 1) n_flat [t.d] S) Q := by
  refine orc_w (ρ := [some t.d, none, none, none, none, none, none, none, none]) rfl rfl rfl ?_
  show W (evSs _ b_flat _ _) _
  simp only [b_flat]
  mul_fits
  have e0 : S ++ [Ob.lst []] ++ [Ob.lst []] ++ [Ob.lst [D.tup [t.d, D.int (-1)]]] = gst_ S [] [] [(t, -1)] [] := by
    show _ = _ ++ _
    simp
  rw [e0, show (S ++ [Ob.lst []]).length = S.length + 1 by simp, show (S ++ [Ob.lst []] ++ [Ob.lst []]).length = S.length + 2 by simp]
  refine while_w (fun n ρ S' => ∃ (ns : List Gt) (js : List Nat) (cs : List (List Nat)) (wt : List (Gt × Int)) (g : Sto) (o4 o5 o6 o7 o8 : Option D), S' = gst_ S ns js wt g ∧ ρ = [some t.d, some (.ref S.length), some (.ref (S.length + 1)), some (.ref (S.length + 2)), o4, o5, o6, o7, o8] ∧ GFS t ns js cs wt g ∧ n + ns.length = t.pre.length) ?_ t.pre.length _ _ _ (by unfold turns; omega) ⟨[], [], [], [(t, -1)], [], _, _, _, _, _, rfl, rfl, .start t, by simp⟩
  rintro n ρ S' ⟨ns, js, cs, wt, g, o4, o5, o6, o7, o8, rfl, rfl, fs, hl⟩
  have wl := fs.wlen
  have sqw : sqOf (gst_ S ns js wt g) (.val (.ref (S.length + 2))) = some (wt.reverse.map gwD) := by simp only [sqOf, lsOf, gf_w]
  mul_fits
  refine ⟨fun c => ?_, fun c => ?_⟩
  · cases wt with
    | nil => exact absurd c (by simp)
    | cons p w =>
    obtain ⟨x, a⟩ := p
    have hlt := fs.len
    have hx := fs.mem
    have hxk := hk x hx
    cases n with
    | zero => omega
    | succ n =>
    refine ⟨n, rfl, ?_⟩
    simp only [b_flat_1]
    have pw := gpopW (p := (x, a)) (w := w)
    rw [List.length_cons] at wl
    mul_fits
    refine v_pop gf_w pw.1 ?_
    rw [gf_sw (wt' := w) pw.2]
    have sqn : sqOf (gst_ S ns js w g) (.val (.ref S.length)) = some (ns.map Gt.d) := by simp only [sqOf, lsOf, gf_n]
    mul_fits
    rw [List.length_map]
    refine w_withL gf_n ?_
    mul_fits
    refine v_app (ds := ns.map Gt.d) gf_n (Nat.lt_of_lt_of_le (Nat.lt_succ_self _) (by rw [List.length_map]; exact le_size (by omega))) ?_
    rw [gf_sn (ns' := ns ++ [x]) (by rw [List.map_append]; rfl)]
    mul_fits
    refine w_withL gf_b ?_
    mul_fits
    rw [gf_app, gf_len]
    refine v_app (ds := js.map fun j => D.ref (S.length + 3 + j)) gf_b (Nat.lt_of_lt_of_le (Nat.lt_succ_self _) (by rw [List.length_map, fs.jl]; exact le_size (by omega))) ?_
    rw [gf_sb (js' := js ++ [g.length]) (by rw [List.map_append]; rfl)]
    -- what follows the test
    have fin : ∀ (cs' : List (List Nat)) (g' : Sto), GFS t (ns ++ [x]) (js ++ [g.length]) cs' (x.kids.map (fun y => (y, (ns.length : Int))) ++ w) g' → 
        W (evSs (orc T k) b_flat_2 [some t.d, some (.ref S.length), some (.ref (S.length + 1)), some (.ref (S.length + 2)), some x.d, some (.int a), some (natD ns.length), o7, o8] (gst_ S (ns ++ [x]) (js ++ [g.length]) w g')) fun fl S2 => ∃ ρ', (fl = .nx ρ' ∨ fl = .ct ρ') ∧ ∃ (ns : List Gt) (js : List Nat) (cs : List (List Nat)) (wt : List (Gt × Int)) (g : Sto) (o4 o5 o6 o7 o8 : Option D), S2 = gst_ S ns js wt g ∧ ρ' = [some t.d, some (.ref S.length), some (.ref (S.length + 1)), some (.ref (S.length + 2)), o4, o5, o6, o7, o8] ∧ GFS t ns js cs wt g ∧ n + ns.length = t.pre.length := by
      intro cs' g' hf
      simp only [b_flat_2]
      obtain ⟨nx, kx⟩ := x
      have hxk : kx.length ≤ 10 := hxk
      refine w_scons (w_set ?_)
      refine gparts_ev (x := .nd nx kx) (v := 4) rfl (hP _ hx) ?_
      mul_fits
      have bd3 : bd62 (((kx.map Gt.d).length : Int) - 1) ∧ bd62 (-1) := by rw [List.length_map]; unfold bd62; omega
      mul_fits
      rw [rgdD_nat, List.length_map]
      refine loopS_e natD (fun r ρ S2 => ∃ (o8 : Option D), r.length ≤ kx.length ∧ r = (List.range r.length).reverse ∧ S2 = gst_ S (ns ++ [.nd nx kx]) (js ++ [g.length]) ((kx.drop r.length).map (fun y => (y, (ns.length : Int))) ++ w) g' ∧ ρ = [some t.d, some (.ref S.length), some (.ref (S.length + 1)), some (.ref (S.length + 2)), some nx, some (.int a), some (natD ns.length), some (.tup (kx.map Gt.d)), o8]) ?_ ?_ (List.range kx.length).reverse _ _ ⟨o8, by simp, by simp, by simp, rfl⟩
      · rintro q r ρ S2 ⟨o8, h1, h2, rfl, rfl⟩
        refine ⟨trivial, ?_⟩
        rw [List.length_cons, List.range_succ, List.reverse_append, List.reverse_singleton, List.singleton_append, List.cons.injEq] at h2
        obtain ⟨rfl, h2⟩ := h2
        rw [List.length_cons] at h1
        have hq : r.length < kx.length := by omega
        have ka : atI (kx.map Gt.d) (r.length : Int) = some (kx[r.length]).d := at_map _ _ _ hq
        simp only [b_flat_3]
        mul_fits
        refine w_withL gf_w ?_
        mul_fits
        refine v_app (ds := ((kx.drop (r.length + 1)).map (fun y => (y, (ns.length : Int))) ++ w).reverse.map gwD) gf_w (Nat.lt_of_lt_of_le (Nat.lt_succ_self _) (by
          simp only [List.length_map, List.length_reverse, List.length_append, List.length_drop]
          exact le_size (by omega))) ?_
        rw [gf_sw (wt' := (kx.drop r.length).map (fun y => (y, (ns.length : Int))) ++ w) (by
          rw [List.drop_eq_getElem_cons hq, List.map_cons, List.cons_append, List.reverse_cons, List.map_append]
          rfl)]
        mul_fits
        exact ⟨_, .inl rfl, _, by omega, h2, rfl, rfl⟩
      · rintro ρ S2 ⟨o8, h1, h2, rfl, rfl⟩
        refine ⟨trivial, ?_⟩
        mul_fits
        exact ⟨_, .inl rfl, _, _, cs', _, _, _, _, _, _, _, rfl, rfl, hf, by simp; omega⟩
    mul_fits
    refine w_ifd (fun c => ?_) fun c => ?_
    · obtain ⟨a, rfl⟩ := Int.eq_ofNat_of_zero_le c
      obtain ⟨j, c0, h1, h2, h3, h4, ⟨y, hy, hy2⟩, h5⟩ := fs.kid
      have hyk := hk y hy
      have ja := (List.getElem?_eq_some_iff.mp h1).1
      have kb : atI ((js ++ [g.length]).map fun j => D.ref (S.length + 3 + j)) (a : Int) = some (.ref (S.length + 3 + j)) := by
        rw [at_map _ _ _ (by simp; omega), List.getElem_append_left ja, (List.getElem?_eq_some_iff.mp h1).2]
      have kg2 : (gst_ S (ns ++ [x]) (js ++ [g.length]) w (g ++ [Ob.lst []]))[S.length + 3 + j]? = some (.lst (c0.map natD)) := by
        rw [gf_g]
        exact get_pre h3
      mul_fits
      refine v_idx gf_b kb ?_
      mul_fits
      refine v_app kg2 (Nat.lt_of_lt_of_le (Nat.lt_succ_self _) (by rw [List.length_map]; exact le_size (by omega))) ?_
      rw [gf_sg, List.set_append_left _ _ h4]
      mul_fits
      have eo : Ob.lst (c0.map natD ++ [D.int (ns.length : Int)]) = .lst ((c0 ++ [ns.length]).map natD) := by rw [List.map_append]; rfl
      rw [eo]
      have h6 := h5 []
      rw [List.append_nil, List.length_set] at h6
      exact fin _ _ h6
    · have ea : a = -1 := by
        rcases fs.ab _ List.mem_cons_self with e | ⟨b, e, _⟩
        · exact e
        · exfalso
          simp at e
          omega
      subst ea
      have h6 := fs.root []
      rw [List.append_nil] at h6
      mul_fits
      exact fin _ _ h6
  · cases wt with
    | cons p w => exact absurd c (by simp)
    | nil =>
    mul_fits
    simp only [b_flat_4]
    mul_fits
    have e : gst_ S ns js [] g = S ++ ([.lst (ns.map Gt.d)] ++ ([.lst (js.map fun j => D.ref (S.length + 3 + j))] ++ ([.lst (([] : List (Gt × Int)).reverse.map gwD)] ++ g)) ++ []) := by
      show _ ++ _ = _
      simp
    rw [e, gc_out (by simp [below, belows])]
    exact w_ok (h _ _ _ (fs.res []) (Nat.le_refl _))
end
def goff (k : Nat) (ks : List Gt) : Nat := (gpres (ks.take k)).length
theorem goff_succ (k : Nat) (t : Gt) (ks : List Gt) : goff (k + 1) (t :: ks) = t.pre.length + goff k ks := by
  unfold goff
  rw [List.take_succ_cons, gpres, List.length_append]
theorem gstarts_get : ∀ (s k : Nat) (ks : List Gt), k < ks.length → (gstarts s ks)[k]? = some (s + goff k ks)
  | s, _, [], h => absurd h (by simp)
  | s, 0, t :: ks, _ => by simp [gstarts, goff, gpres]
  | s, k + 1, t :: ks, h => by
    rw [gstarts, List.getElem?_cons_succ, gstarts_get _ k ks (by simpa using h), goff_succ]
    congr 1
    omega
theorem gpres_at : ∀ (ks : List Gt) (k : Nat) (y : Gt), ks[k]? = some y → (gpres ks)[goff k ks]? = some y
  | [], _, _, h => by simp at h
  | t :: ks, 0, y, h => by
    simp at h
    subst h
    rw [gpres, gpre_eq]
    simp [goff, gpres]
  | t :: ks, k + 1, y, h => by
    rw [goff_succ, gpres, List.getElem?_append_right (by omega), Nat.add_sub_cancel_left]
    exact gpres_at ks k y (by simpa using h)
mutual
theorem gpre_kid : ∀ (t : Gt) (i : Nat) (x : Gt) (k : Nat) (y : Gt), t.pre[i]? = some x → x.kids[k]? = some y → t.pre[i + 1 + goff k x.kids]? = some y
  | .nd a ks, 0, x, k, y, h, h2 => by
    rw [Gt.pre] at h ⊢
    simp at h
    subst h
    rw [show 0 + 1 + goff k (Gt.nd a ks).kids = goff k ks + 1 from by simp [Gt.kids]; omega, List.getElem?_cons_succ]
    exact gpres_at ks k y h2
  | .nd a ks, i + 1, x, k, y, h, h2 => by
    rw [Gt.pre] at h ⊢
    rw [show i + 1 + 1 + goff k x.kids = (i + 1 + goff k x.kids) + 1 from by omega, List.getElem?_cons_succ]
    exact gpres_kid ks i x k y (by simpa using h) h2
theorem gpres_kid : ∀ (ts : List Gt) (i : Nat) (x : Gt) (k : Nat) (y : Gt), (gpres ts)[i]? = some x → x.kids[k]? = some y → (gpres ts)[i + 1 + goff k x.kids]? = some y
  | [], i, x, k, y, h, _ => by simp [gpres] at h
  | t :: ts, i, x, k, y, h, h2 => by
    rw [gpres] at h ⊢
    by_cases c : i < t.pre.length
    · rw [List.getElem?_append_left c] at h
      have := gpre_kid t i x k y h h2
      rw [List.getElem?_append_left (List.getElem?_eq_some_iff.mp this).1]
      exact this
    · rw [List.getElem?_append_right (by omega)] at h
      rw [List.getElem?_append_right (by omega), show i + 1 + goff k x.kids - t.pre.length = (i - t.pre.length) + 1 + goff k x.kids from by omega]
      exact gpres_kid ts _ x k y h h2
end
mutual
theorem gparent : ∀ (t : Gt) (p : Nat), p + 1 < t.pre.length → ∃ i x k, i < p + 1 ∧ t.pre[i]? = some x ∧ k < x.kids.length ∧ p + 1 = i + 1 + goff k x.kids
  | .nd a ks, p, h => by
    rw [Gt.pre] at h ⊢
    rw [List.length_cons] at h
    rcases gparents ks p (by omega) with ⟨k, h1, h2⟩ | ⟨i, x, k, h1, h2, h3, h4⟩
    · exact ⟨0, .nd a ks, k, by omega, rfl, h1, by show p + 1 = 0 + 1 + goff k ks; omega⟩
    · exact ⟨i + 1, x, k, by omega, by simpa using h2, h3, by omega⟩
theorem gparents : ∀ (ts : List Gt) (p : Nat), p < (gpres ts).length → (∃ k, k < ts.length ∧ p = goff k ts) ∨ ∃ i x k, i < p ∧ (gpres ts)[i]? = some x ∧ k < x.kids.length ∧ p = i + 1 + goff k x.kids
  | [], p, h => by simp [gpres] at h
  | t :: ts, p, h => by
    rw [gpres, List.length_append] at h
    by_cases c : p < t.pre.length
    · cases p with
      | zero => exact .inl ⟨0, by simp, by simp [goff, gpres]⟩
      | succ p =>
        obtain ⟨i, x, k, h1, h2, h3, h4⟩ := gparent t p c
        refine .inr ⟨i, x, k, h1, ?_, h3, h4⟩
        rw [gpres, List.getElem?_append_left (List.getElem?_eq_some_iff.mp h2).1]
        exact h2
    · rcases gparents ts (p - t.pre.length) (by omega) with ⟨k, h1, h2⟩ | ⟨i, x, k, h1, h2, h3, h4⟩
      · exact .inl ⟨k + 1, by simpa using h1, by rw [goff_succ]; omega⟩
      · refine .inr ⟨i + t.pre.length, x, k, by omega, ?_, h3, by omega⟩
        rw [gpres, List.getElem?_append_right (by omega), Nat.add_sub_cancel]
        exact h2
end
mutual
def Gt.dn {β : Type} (f : Gt → β → Nat → β) : Gt → β → List β
  | .nd x ks, v => v :: gdns f ks (f (.nd x ks) v)
def gdns {β : Type} (f : Gt → β → Nat → β) : List Gt → (Nat → β) → List β
  | [], _ => []
  | t :: ts, g => t.dn f (g 0) ++ gdns f ts fun k => g (k + 1)
end
section
variable {β : Type} {f : Gt → β → Nat → β}
theorem gat_eq (t : Gt) (v : β) : t.dn f v = v :: gdns f t.kids (f t v) := by
  cases t
  rw [Gt.dn]
  rfl
mutual
theorem gat_len : ∀ (t : Gt) (v : β), (t.dn f v).length = t.pre.length
  | .nd x ks, v => by rw [Gt.dn, Gt.pre, List.length_cons, List.length_cons, gats_len ks]
theorem gats_len : ∀ (ts : List Gt) (g : Nat → β), (gdns f ts g).length = (gpres ts).length
  | [], _ => rfl
  | t :: ts, g => by rw [gdns, gpres, List.length_append, List.length_append, gat_len t, gats_len ts]
end
theorem gats_at : ∀ (ks : List Gt) (g : Nat → β) (k : Nat), k < ks.length → (gdns f ks g)[goff k ks]? = some (g k)
  | [], _, _, h => by simp at h
  | t :: ks, g, 0, _ => by
    rw [gdns, gat_eq]
    simp [goff, gpres]
  | t :: ks, g, k + 1, h => by
    rw [goff_succ, gdns, List.getElem?_append_right (by rw [gat_len]; omega), gat_len, Nat.add_sub_cancel_left]
    exact gats_at ks _ k (by simpa using h)
mutual
theorem gat_kid : ∀ (t : Gt) (v : β) (i : Nat) (x : Gt) (u : β) (k : Nat), t.pre[i]? = some x → (t.dn f v)[i]? = some u → k < x.kids.length → (t.dn f v)[i + 1 + goff k x.kids]? = some (f x u k)
  | .nd a ks, v, 0, x, u, k, h, h2, h3 => by
    rw [Gt.pre] at h
    rw [Gt.dn] at h2 ⊢
    simp at h h2
    subst h h2
    rw [show 0 + 1 + goff k (Gt.nd a ks).kids = goff k ks + 1 from by simp [Gt.kids]; omega, List.getElem?_cons_succ]
    exact gats_at ks _ k h3
  | .nd a ks, v, i + 1, x, u, k, h, h2, h3 => by
    rw [Gt.pre] at h
    rw [Gt.dn] at h2 ⊢
    rw [show i + 1 + 1 + goff k x.kids = (i + 1 + goff k x.kids) + 1 from by omega, List.getElem?_cons_succ]
    exact gats_kid ks _ i x u k (by simpa using h) (by simpa using h2) h3
theorem gats_kid : ∀ (ts : List Gt) (g : Nat → β) (i : Nat) (x : Gt) (u : β) (k : Nat), (gpres ts)[i]? = some x → (gdns f ts g)[i]? = some u → k < x.kids.length → (gdns f ts g)[i + 1 + goff k x.kids]? = some (f x u k)
  | [], _, i, x, u, k, h, _, _ => by simp [gpres] at h
  | t :: ts, g, i, x, u, k, h, h2, h3 => by
    rw [gpres] at h
    rw [gdns] at h2 ⊢
    by_cases c : i < t.pre.length
    · rw [List.getElem?_append_left c] at h
      rw [List.getElem?_append_left (by rw [gat_len]; exact c)] at h2
      have := gat_kid t (g 0) i x u k h h2 h3
      rw [List.getElem?_append_left (List.getElem?_eq_some_iff.mp this).1]
      exact this
    · rw [List.getElem?_append_right (by omega)] at h
      rw [List.getElem?_append_right (by rw [gat_len]; omega), gat_len] at h2
      rw [List.getElem?_append_right (by rw [gat_len]; omega), gat_len, show i + 1 + goff k x.kids - t.pre.length = (i - t.pre.length) + 1 + goff k x.kids from by omega]
      exact gats_kid ts _ _ x u k h h2 h3
end
end
mutual
def okD : D → Prop
  | .non => True
  | .bl _ => True
  | .int _ => True
  | .str x => PyData.strOk x = true
  | .tup ds => okDs ds
  | .fix ds => okDs ds
  | .ref _ => False
def okDs : List D → Prop
  | [] => True
  | d :: ds => okD d ∧ okDs ds
end
mutual
def depD : D → Nat
  | .non => 0
  | .bl _ => 0
  | .int _ => 0
  | .str _ => 0
  | .tup ds => depDs ds + 1
  | .fix ds => depDs ds + 1
  | .ref _ => 0
def depDs : List D → Nat
  | [] => 0
  | d :: ds => max (depD d) (depDs ds)
end
mutual
theorem toPW_ok : ∀ d : D, okD d → ∃ p : PyData, (∀ f, toPW f d = some p) ∧ p.canLay0 = true ∧ p.depth = depD d
  | .non, _ => ⟨.none, fun _ => rfl, rfl, rfl⟩
  | .bl b, _ => ⟨.bool b, fun _ => rfl, rfl, rfl⟩
  | .int i, _ => ⟨.int i, fun _ => rfl, rfl, rfl⟩
  | .str x, h => ⟨.str x, fun _ => rfl, by simpa [PyData.canLay0, okD] using h, rfl⟩
  | .tup ds, h => by
    obtain ⟨ps, h1, h2, h3⟩ := toPsW_ok ds h
    exact ⟨.tuple ps, fun f => by rw [toPW, h1]; rfl, by rw [PyData.canLay0]; exact h2, by rw [PyData.depth, depD, h3]⟩
  | .fix ds, h => by
    obtain ⟨ps, h1, h2, h3⟩ := toPsW_ok ds h
    exact ⟨.list ps, fun f => by rw [toPW, h1]; rfl, by rw [PyData.canLay0]; exact h2, by rw [PyData.depth, depD, h3]⟩
  | .ref _, h => h.elim
theorem toPsW_ok : ∀ ds : List D, okDs ds → ∃ ps : List PyData, (∀ f, toPsW f ds = some ps) ∧ PyData.canLayAll0 ps = true ∧ PyData.depthAll ps = depDs ds
  | [], _ => ⟨[], fun _ => rfl, rfl, rfl⟩
  | d :: ds, h => by
    obtain ⟨p, h1, h2, h3⟩ := toPW_ok d h.1
    obtain ⟨ps, h4, h5, h6⟩ := toPsW_ok ds h.2
    exact ⟨p :: ps, fun f => by rw [toPsW, h1, h4], by rw [PyData.canLayAll0, h2, h5]; rfl, by rw [PyData.depthAll, depDs, h3, h6]⟩
end
theorem okDs_iff : ∀ {ds : List D}, okDs ds ↔ ∀ d ∈ ds, okD d
  | [] => by simp [okDs]
  | d :: ds => by simp [okDs, okDs_iff (ds := ds)]
theorem depDs_le {n : Nat} : ∀ {ds : List D}, depDs ds ≤ n ↔ ∀ d ∈ ds, depD d ≤ n
  | [] => by simp [depDs]
  | d :: ds => by simp [depDs, Nat.max_le, depDs_le (ds := ds)]
theorem okD_tup {ds : List D} : okD (.tup ds) ↔ ∀ d ∈ ds, okD d := by rw [okD]; exact okDs_iff
theorem depD_tup {n : Nat} {ds : List D} : depD (.tup ds) ≤ n + 1 ↔ ∀ d ∈ ds, depD d ≤ n := by
  rw [depD, Nat.add_le_add_iff_right]
  exact depDs_le
theorem dEq_self {S : Sto} {d : D} (h : okD d) (hd : depD d ≤ 3000) : dEq S d d = some true := by
  unfold dEq
  by_cases c : scalD d d = true
  · rw [if_pos c]
    cases d <;> first | (cases c; done) | simp [eqSc]
  · rw [if_neg c]
    obtain ⟨p, h1, h2, h3⟩ := toPW_ok d h
    have e : toP S d = some p := h1 _
    have s : shp p = true := by
      unfold shp
      rw [h2, Bool.true_and]
      exact decide_eq_true (by rw [h3]; exact hd)
    simp only [e, s, Bool.and_self, if_true, SeqAt.eqv_refl p h2]
theorem w_eqSelf {S : Sto} {d : D} {Q : D → Sto → Prop} (h : okD d) (hd : depD d ≤ 3000) (q : Q (.bl true) S) : W (cmpD .eq d d S) Q := by
  simp only [cmpD, dEq_self h hd, may_some, W_ok]
  exact q
theorem w_neSelf {S : Sto} {d : D} {Q : D → Sto → Prop} (h : okD d) (hd : depD d ≤ 3000) (q : Q (.bl false) S) : W (cmpD .ne d d S) Q := by
  simp only [cmpD, dEq_self h hd, may_some, W_ok]
  exact q

inductive Ht where
  | nd (n : Nat) (hd : List D) (ks : List Ht)
  | hole
mutual
def Ht.d : Ht → D
  | .nd n hd ks => .tup (natD n :: (hd ++ [.tup (htd ks)]))
  | .hole => .non
def htd : List Ht → List D
  | [] => []
  | t :: r => t.d :: htd r
end
theorem htd_map : ∀ ps : List Ht, htd ps = ps.map Ht.d
  | [] => rfl
  | t :: r => by rw [htd, htd_map r]; rfl
theorem ht_d (n : Nat) (hd : List D) (ks : List Ht) : (Ht.nd n hd ks).d = .tup (natD n :: (hd ++ [.tup (ks.map Ht.d)])) := by rw [Ht.d, htd_map]
theorem ht_hole : Ht.hole.d = .non := by rw [Ht.d]
def Ht.kids : Ht → List Ht
  | .nd _ _ ks => ks
  | .hole => []
def Ht.num : Ht → Nat
  | .nd n _ _ => n
  | .hole => 0
mutual
def Ht.g : Ht → Gt
  | .nd n hd ks => .nd (Ht.nd n hd ks).d (htg ks)
  | .hole => .nd .non []
def htg : List Ht → List Gt
  | [] => []
  | t :: r => t.g :: htg r
end
theorem htg_map : ∀ ps : List Ht, htg ps = ps.map Ht.g
  | [] => rfl
  | t :: r => by rw [htg, htg_map r]; rfl
theorem hg_d (t : Ht) : t.g.d = t.d := by
  cases t with
  | nd n hd ks => rw [Ht.g]; rfl
  | hole => rw [Ht.g, ht_hole]; rfl
theorem hg_kids (t : Ht) : t.g.kids = t.kids.map Ht.g := by
  cases t with
  | nd n hd ks => rw [Ht.g, ← htg_map]; rfl
  | hole => rw [Ht.g]; rfl
mutual
def Ht.pre : Ht → List Ht
  | .nd n hd ks => .nd n hd ks :: hpres ks
  | .hole => [.hole]
def hpres : List Ht → List Ht
  | [] => []
  | t :: r => t.pre ++ hpres r
end
theorem hpre_eq (t : Ht) : t.pre = t :: hpres t.kids := by
  cases t with
  | nd n hd ks => rw [Ht.pre]; rfl
  | hole => rw [Ht.pre]; rfl
mutual
theorem hg_pre : ∀ t : Ht, t.g.pre = t.pre.map Ht.g
  | .nd n hd ks => by
    have := hg_pres ks
    rw [gpre_eq, hg_kids, hpre_eq, List.map_cons]
    exact congrArg _ this
  | .hole => by
    rw [gpre_eq, hg_kids, hpre_eq, List.map_cons]
    rfl
theorem hg_pres : ∀ ts : List Ht, gpres (ts.map Ht.g) = (hpres ts).map Ht.g
  | [] => rfl
  | t :: ts => by rw [List.map_cons, gpres, hpres, List.map_append, hg_pre t, hg_pres ts]
end
theorem hg_preD (t : Ht) : t.g.pre.map Gt.d = t.pre.map Ht.d := by
  rw [hg_pre, List.map_map]
  exact List.map_congr_left fun x _ => hg_d x
theorem hg_kidsD (t : Ht) : t.g.kids.map Gt.d = t.kids.map Ht.d := by
  rw [hg_kids, List.map_map]
  exact List.map_congr_left fun x _ => hg_d x
theorem hg_parts (t : Ht) : GParts t.g := by
  unfold GParts
  rw [hg_d, hg_kidsD]
  cases t with
  | nd n hd ks => exact .inr ⟨natD n :: hd, by rw [ht_d]; rfl⟩
  | hole => exact .inl ⟨ht_hole, by rw [hg_kids]; rfl⟩
theorem hg_all {P : Gt → Prop} {t : Ht} (h : ∀ x ∈ t.pre, P x.g) : ∀ x ∈ t.g.pre, P x := fun x hx => by
  rw [hg_pre] at hx
  obtain ⟨y, hy, rfl⟩ := List.mem_map.mp hx
  exact h y hy
theorem hg_klen {m : Nat} {t : Ht} (h : ∀ x ∈ t.pre, x.kids.length ≤ m) : ∀ x ∈ t.g.pre, x.kids.length ≤ m := hg_all fun x hx => by
  rw [hg_kids, List.length_map]
  exact h x hx
theorem hg_len (t : Ht) : t.g.pre.length = t.pre.length := by rw [hg_pre, List.length_map]
mutual
def Tr.h : Tr → Ht
  | .nd n ps => .nd n [] (trh ps)
def trh : List Tr → List Ht
  | [] => []
  | t :: r => t.h :: trh r
end
theorem trh_map : ∀ ps : List Tr, trh ps = ps.map Tr.h
  | [] => rfl
  | t :: r => by rw [trh, trh_map r]; rfl
theorem th_nd (n : Nat) (ps : List Tr) : (Tr.nd n ps).h = .nd n [] (ps.map Tr.h) := by rw [Tr.h, trh_map]
mutual
theorem th_d : ∀ t : Tr, t.h.d = t.d
  | .nd n ps => by rw [Tr.h, Ht.d, Tr.d, trh_d ps]; rfl
theorem trh_d : ∀ ps : List Tr, htd (trh ps) = Trs.d ps
  | [] => rfl
  | t :: r => by rw [trh, htd, Trs.d, th_d t, trh_d r]
end
theorem th_kids (t : Tr) : t.h.kids = t.kids.map Tr.h := by
  cases t
  rw [th_nd]
  rfl
mutual
theorem th_pre : ∀ t : Tr, t.h.pre = t.pre.map Tr.h
  | .nd n ps => by
    have := th_pres ps
    rw [hpre_eq, th_kids, pre_eq, List.map_cons]
    exact congrArg _ this
theorem th_pres : ∀ ts : List Tr, hpres (ts.map Tr.h) = (pres ts).map Tr.h
  | [] => rfl
  | t :: ts => by rw [List.map_cons, hpres, pres, List.map_append, th_pre t, th_pres ts]
end
def Cov (t : Gt) (i m p : Nat) : Prop := p = 0 ∨ (∃ j x k, j < i ∧ t.pre[j]? = some x ∧ k < x.kids.length ∧ p = j + 1 + goff k x.kids) ∨ ∃ x k, k < m ∧ t.pre[i]? = some x ∧ k < x.kids.length ∧ p = i + 1 + goff k x.kids
structure Agr {β : Type} (t : Gt) (A B : List β) (i m : Nat) : Prop where
  len : A.length = B.length
  at_ : ∀ p, Cov t i m p → A[p]? = B[p]?
section
variable {β : Type} {t : Gt} {A B : List β} {i m : Nat} {x : Gt}
theorem Agr.start (h : A.length = B.length) (h0 : A[0]? = B[0]?) : Agr t A B 0 0 := ⟨h, fun p c => by
  rcases c with rfl | ⟨j, _, _, hj, _⟩ | ⟨_, k, hk, _⟩
  · exact h0
  · omega
  · omega⟩
theorem cov_self (h : i < t.pre.length) : Cov t i 0 i := by
  cases i with
  | zero => exact .inl rfl
  | succ p =>
    obtain ⟨j, x, k, h1, h2, h3, h4⟩ := gparent t p h
    exact .inr (.inl ⟨j, x, k, h1, h2, h3, h4⟩)
theorem Agr.self (a : Agr t A B i 0) (h : i < t.pre.length) : A[i]? = B[i]? := a.at_ i (cov_self h)
theorem Agr.self' (a : Agr t A B i m) (h : i < t.pre.length) : A[i]? = B[i]? := a.at_ i (by
  rcases cov_self h with c | c | ⟨_, k, hk, _⟩
  · exact .inl c
  · exact .inr (.inl c)
  · omega)
theorem Agr.step {u : β} (a : Agr t A B i m) (hx : t.pre[i]? = some x) (hu : B[i + 1 + goff m x.kids]? = some u) : Agr t (A.set (i + 1 + goff m x.kids) u) B i (m + 1) := by
  have hlt : i + 1 + goff m x.kids < A.length := by rw [a.len]; exact (List.getElem?_eq_some_iff.mp hu).1
  refine ⟨by rw [List.length_set]; exact a.len, fun p c => ?_⟩
  by_cases e : p = i + 1 + goff m x.kids
  · subst e
    rw [List.getElem?_set_self hlt, hu]
  · rw [List.getElem?_set_ne (fun z => e z.symm)]
    refine a.at_ p ?_
    rcases c with c | c | ⟨y, k, hk, hy, h1, h2⟩
    · exact .inl c
    · exact .inr (.inl c)
    · rw [hx] at hy
      cases hy
      by_cases z : k = m
      · subst z
        exact absurd h2 e
      · exact .inr (.inr ⟨x, k, by omega, hx, h1, h2⟩)
theorem Agr.next (a : Agr t A B i m) (hx : t.pre[i]? = some x) (hm : m = x.kids.length) : Agr t A B (i + 1) 0 := ⟨a.len, fun p c => by
  rcases c with c | ⟨j, y, k, hj, hy, h1, h2⟩ | ⟨_, k, hk, _⟩
  · exact a.at_ p (.inl c)
  · by_cases z : j = i
    · subst z
      rw [hx] at hy
      cases hy
      exact a.at_ p (.inr (.inr ⟨x, k, by omega, hx, h1, h2⟩))
    · exact a.at_ p (.inr (.inl ⟨j, y, k, by omega, hy, h1, h2⟩))
  · omega⟩
theorem Agr.done (a : Agr t A B i 0) (hb : B.length = t.pre.length) (hi : i = t.pre.length) : A = B := by
  refine List.ext_getElem? fun p => ?_
  by_cases c : p < t.pre.length
  · refine a.at_ p ?_
    rcases cov_self (t := t) (i := p) c with z | ⟨j, y, k, hj, hy, h1, h2⟩ | ⟨_, k, hk, _⟩
    · exact .inl z
    · exact .inr (.inl ⟨j, y, k, by omega, hy, h1, h2⟩)
    · omega
  · rw [List.getElem?_eq_none (by rw [a.len]; omega), List.getElem?_eq_none (by omega)]
structure AgU {β : Type} (A B : List β) (i : Nat) : Prop where
  len : A.length = B.length
  at_ : ∀ p, i ≤ p → A[p]? = B[p]?
theorem AgU.start (h : A.length = B.length) : AgU A B A.length := ⟨h, fun p hp => by rw [List.getElem?_eq_none hp, List.getElem?_eq_none (by omega)]⟩
theorem AgU.step {u : β} (a : AgU A B (i + 1)) (hu : B[i]? = some u) : AgU (A.set i u) B i := by
  have hlt : i < A.length := by rw [a.len]; exact (List.getElem?_eq_some_iff.mp hu).1
  refine ⟨by rw [List.length_set]; exact a.len, fun p hp => ?_⟩
  by_cases e : p = i
  · subst e
    rw [List.getElem?_set_self hlt, hu]
  · rw [List.getElem?_set_ne (fun z => e z.symm)]
    exact a.at_ p (by omega)
theorem AgU.done (a : AgU A B 0) : A = B := List.ext_getElem? fun p => a.at_ p (Nat.zero_le _)
theorem gpre_lt {k : Nat} (hx : t.pre[i]? = some x) (hk : k < x.kids.length) : i + 1 + goff k x.kids < t.pre.length := by
  obtain ⟨y, hy⟩ : ∃ y, x.kids[k]? = some y := ⟨_, List.getElem?_eq_getElem hk⟩
  exact (List.getElem?_eq_some_iff.mp (gpre_kid t i x k y hx hy)).1
end
theorem GFlat.below {S G : Sto} {t : Gt} {a b : Nat} (h : GFlat S G t a b) : ∃ rs : List Nat, (S ++ G)[b]? = some (.lst (rs.map D.ref)) ∧ rs.length = t.pre.length ∧ ∀ (i : Nat) (x : Gt), t.pre[i]? = some x → ∃ r, atI (rs.map D.ref) (i : Int) = some (.ref r) ∧ (S ++ G)[r]? = some (.lst ((gstarts (i + 1) x.kids).map natD)) := by
  obtain ⟨rs, h1, h2, h3⟩ := h.nb
  refine ⟨rs, h1, h2, fun i x hx => ?_⟩
  have hi : i < rs.length := by rw [h2]; exact (List.getElem?_eq_some_iff.mp hx).1
  exact ⟨rs[i], at_map _ _ _ hi, h3 i _ x (List.getElem?_eq_getElem hi) hx⟩
theorem at_starts {i k : Nat} {ks : List Gt} (h : k < ks.length) : atI ((gstarts (i + 1) ks).map natD) (k : Int) = some (natD (i + 1 + goff k ks)) := by
  have e := gstarts_get (i + 1) k ks h
  have hk : k < (gstarts (i + 1) ks).length := by rw [gstarts_len]; exact h
  rw [at_map _ _ _ hk]
  rw [List.getElem?_eq_getElem hk] at e
  rw [Option.some.inj e]
def hoff (k : Nat) (ks : List Ht) : Nat := (hpres (ks.take k)).length
theorem hoff_g (k : Nat) (ks : List Ht) : goff k (ks.map Ht.g) = hoff k ks := by
  unfold goff hoff
  rw [← List.map_take, hg_pres, List.length_map]
theorem hoff_succ (k : Nat) (t : Ht) (ks : List Ht) : hoff (k + 1) (t :: ks) = t.pre.length + hoff k ks := by
  unfold hoff
  rw [List.take_succ_cons, hpres, List.length_append]
theorem hpres_at : ∀ (ks : List Ht) (k : Nat) (y : Ht), ks[k]? = some y → (hpres ks)[hoff k ks]? = some y
  | [], _, _, h => by simp at h
  | t :: ks, 0, y, h => by
    simp at h
    subst h
    rw [hpres, hpre_eq]
    simp [hoff, hpres]
  | t :: ks, k + 1, y, h => by
    rw [hoff_succ, hpres, List.getElem?_append_right (by omega), Nat.add_sub_cancel_left]
    exact hpres_at ks k y (by simpa using h)
mutual
theorem hpre_kid' : ∀ (t : Ht) (i : Nat) (x : Ht) (k : Nat) (y : Ht), t.pre[i]? = some x → x.kids[k]? = some y → t.pre[i + 1 + hoff k x.kids]? = some y
  | .nd a b ks, 0, x, k, y, h, h2 => by
    rw [Ht.pre] at h ⊢
    simp at h
    subst h
    rw [show 0 + 1 + hoff k (Ht.nd a b ks).kids = hoff k ks + 1 from by simp [Ht.kids]; omega, List.getElem?_cons_succ]
    exact hpres_at ks k y h2
  | .nd a b ks, i + 1, x, k, y, h, h2 => by
    rw [Ht.pre] at h ⊢
    rw [show i + 1 + 1 + hoff k x.kids = (i + 1 + hoff k x.kids) + 1 from by omega, List.getElem?_cons_succ]
    exact hpres_kid ks i x k y (by simpa using h) h2
  | .hole, 0, x, k, y, h, h2 => by
    rw [Ht.pre] at h
    simp at h
    subst h
    simp [Ht.kids] at h2
  | .hole, i + 1, x, k, y, h, h2 => by
    rw [Ht.pre] at h
    simp at h
theorem hpres_kid : ∀ (ts : List Ht) (i : Nat) (x : Ht) (k : Nat) (y : Ht), (hpres ts)[i]? = some x → x.kids[k]? = some y → (hpres ts)[i + 1 + hoff k x.kids]? = some y
  | [], i, x, k, y, h, _ => by simp [hpres] at h
  | t :: ts, i, x, k, y, h, h2 => by
    rw [hpres] at h ⊢
    by_cases c : i < t.pre.length
    · rw [List.getElem?_append_left c] at h
      have := hpre_kid' t i x k y h h2
      rw [List.getElem?_append_left (List.getElem?_eq_some_iff.mp this).1]
      exact this
    · rw [List.getElem?_append_right (by omega)] at h
      rw [List.getElem?_append_right (by omega), show i + 1 + hoff k x.kids - t.pre.length = (i - t.pre.length) + 1 + hoff k x.kids from by omega]
      exact hpres_kid ts _ x k y h h2
end
theorem hpre_kid (t : Ht) (i : Nat) (x : Ht) (k : Nat) (y : Ht) (h : t.pre[i]? = some x) (h2 : x.kids[k]? = some y) : t.pre[i + 1 + goff k (x.kids.map Ht.g)]? = some y := by
  rw [hoff_g]
  exact hpre_kid' t i x k y h h2
def Ht.sub : Ht → List Nat → Option Ht
  | t, [] => some t
  | t, k :: p => (t.kids[k]?).bind fun y => y.sub p
def Ht.put : Ht → List Nat → Ht → Ht
  | _, [], o => o
  | .hole, _ :: _, _ => .hole
  | .nd n hd ks, k :: p, o => .nd n hd (match ks[k]? with
    | some y => ks.set k (y.put p o)
    | none => ks)
theorem sub_app : ∀ (t : Ht) (p : List Nat) (k : Nat), t.sub (p ++ [k]) = (t.sub p).bind fun x => x.kids[k]?
  | t, [], k => by
    show (t.kids[k]?).bind (fun y => y.sub []) = _
    simp [Ht.sub]
  | t, j :: p, k => by
    rw [List.cons_append, Ht.sub, Ht.sub]
    cases t.kids[j]? with
    | none => rfl
    | some y => exact sub_app y p k
theorem put_sub : ∀ (t : Ht) (p : List Nat) (y : Ht), t.sub p = some y → t.put p y = t
  | t, [], y, h => by
    rw [Ht.sub] at h
    have := (Option.some.inj h).symm
    cases t <;> simpa only [Ht.put] using this
  | .hole, k :: p, y, _ => by rw [Ht.put]
  | .nd n hd ks, k :: p, y, h => by
    rw [Ht.sub] at h
    rw [Ht.put]
    cases e : ks[k]? with
    | none => rfl
    | some z =>
      have h : ((ks[k]?).bind fun y => y.sub p) = some y := h
      rw [e] at h
      have h : z.sub p = some y := h
      show Ht.nd n hd (ks.set k (z.put p y)) = _
      rw [put_sub z p y h]
      congr 1
      exact List.ext_getElem? fun i => by
        by_cases c : k = i
        · subst c
          rw [List.getElem?_set_self (List.getElem?_eq_some_iff.mp e).1, e]
        · rw [List.getElem?_set_ne c]
theorem put_put : ∀ (t : Ht) (p : List Nat) (o o' : Ht), (t.put p o).put p o' = t.put p o'
  | t, [], o, o' => by cases t <;> simp only [Ht.put]
  | .hole, k :: p, o, o' => by rw [Ht.put, Ht.put]
  | .nd n hd ks, k :: p, o, o' => by
    cases e : ks[k]? with
    | none => simp only [Ht.put, e]
    | some z =>
      have hk := (List.getElem?_eq_some_iff.mp e).1
      simp only [Ht.put, e, List.getElem?_set_self hk, List.set_set, put_put z p o o']
theorem sub_put : ∀ (t : Ht) (p : List Nat) (y o : Ht), t.sub p = some y → (t.put p o).sub p = some o
  | t, [], y, o, h => by cases t <;> rw [Ht.put, Ht.sub]
  | .hole, k :: p, y, o, h => by
    rw [Ht.sub] at h
    have h : ((([] : List Ht)[k]?).bind fun y => y.sub p) = some y := h
    simp at h
  | .nd n hd ks, k :: p, y, o, h => by
    rw [Ht.sub] at h
    have h : ((ks[k]?).bind fun y => y.sub p) = some y := h
    rw [Ht.put, Ht.sub]
    cases e : ks[k]? with
    | none => rw [e] at h; simp at h
    | some z =>
      rw [e] at h
      have h : z.sub p = some y := h
      have hk := (List.getElem?_eq_some_iff.mp e).1
      show (((ks.set k (z.put p o))[k]?).bind fun y => y.sub p) = some o
      rw [List.getElem?_set_self hk]
      exact sub_put z p y o h
def paths (t : Ht) : List (List Nat) := t.g.dn (fun _ u k => u ++ [k]) []
theorem paths_len (t : Ht) : (paths t).length = t.pre.length := by
  unfold paths
  rw [gat_len, hg_len]
theorem hg_get {t : Ht} {i : Nat} {x : Gt} (h : t.g.pre[i]? = some x) : ∃ y, t.pre[i]? = some y ∧ x = y.g := by
  rw [hg_pre, List.getElem?_map] at h
  cases e : t.pre[i]? with
  | none => rw [e] at h; cases h
  | some y => rw [e] at h; cases h; exact ⟨y, rfl, rfl⟩
theorem hg_getI {t : Ht} {i : Nat} {y : Ht} (h : t.pre[i]? = some y) : t.g.pre[i]? = some y.g := by
  rw [hg_pre, List.getElem?_map, h]
  rfl
theorem paths_sub (t : Ht) : ∀ (i : Nat) (x : Ht) (p : List Nat), t.pre[i]? = some x → (paths t)[i]? = some p → t.sub p = some x := by
  intro i
  induction i using Nat.strongRecOn with
  | _ i ih =>
  intro x p hx hp
  cases i with
  | zero =>
    rw [hpre_eq] at hx
    unfold paths at hp
    rw [gat_eq] at hp
    simp at hx hp
    subst hx hp
    rfl
  | succ q =>
    have hq : q + 1 < t.g.pre.length := by rw [hg_len]; exact (List.getElem?_eq_some_iff.mp hx).1
    obtain ⟨j, y, k, h1, h2, h3, h4⟩ := gparent t.g q hq
    obtain ⟨z, hz, rfl⟩ := hg_get h2
    have hu : ∃ u, (paths t)[j]? = some u := ⟨_, List.getElem?_eq_getElem (by rw [paths_len]; exact (List.getElem?_eq_some_iff.mp hz).1)⟩
    obtain ⟨u, hu⟩ := hu
    have := ih j h1 z u hz hu
    have hk := gat_kid (f := fun _ u k => u ++ [k]) t.g [] j z.g u k h2 hu h3
    rw [← h4] at hk
    have hp : (t.g.dn (fun _ u k => u ++ [k]) [])[q + 1]? = some p := hp
    rw [hk] at hp
    cases hp
    rw [sub_app, this]
    rw [hg_kids, List.length_map] at h3
    have e : z.kids[k]? = some z.kids[k] := List.getElem?_eq_getElem h3
    have := hpre_kid t j z k (z.kids[k]) hz e
    rw [← hg_kids, ← h4, hx] at this
    rw [Option.some.inj this]
    exact e

theorem cut_init {l : List D} {x : D} : PQ.cutD (l ++ [x]) none (some (-1)) = l := by
  unfold PQ.cutD
  simp only [HT.sIx]
  have e : ((-1 : Int) + ((l ++ [x]).length : Int)).toNat = l.length := by simp; omega
  rw [if_pos (by decide), List.drop_zero, Nat.sub_zero, e]
  simp
theorem pd_nd {n : Nat} {hd : List D} {ks : List Ht} : Pd (Ht.nd n hd ks).d ↔ (∀ d ∈ hd, Pd d) ∧ ∀ y ∈ ks, Pd y.d := by
  rw [ht_d, pd_tup]
  constructor
  · intro h
    refine ⟨fun d hd' => h d (by simp [hd']), fun y hy => ?_⟩
    have := h (.tup (ks.map Ht.d)) (by simp)
    rw [pd_tup] at this
    exact this _ (List.mem_map_of_mem hy)
  · rintro ⟨h1, h2⟩ d hd'
    simp only [List.mem_cons, List.mem_append, List.not_mem_nil, or_false] at hd'
    rcases hd' with rfl | hd' | rfl
    · trivial
    · exact h1 d hd'
    · exact pd_map h2
theorem pd_hole : Pd Ht.hole.d := by rw [ht_hole]; trivial
theorem pd_put : ∀ (t : Ht) (p : List Nat) (o : Ht), Pd t.d → Pd o.d → Pd (t.put p o).d
  | t, [], o, _, h => by cases t <;> (rw [Ht.put]; exact h)
  | .hole, _ :: _, o, h, _ => by rw [Ht.put]; exact h
  | .nd n hd ks, k :: p, o, h, ho => by
    obtain ⟨h1, h2⟩ := pd_nd.mp h
    rw [Ht.put]
    refine pd_nd.mpr ⟨h1, fun y hy => ?_⟩
    cases e : ks[k]? with
    | none => rw [e] at hy; exact h2 y hy
    | some z =>
      rw [e] at hy
      rcases List.mem_or_eq_of_mem_set hy with hy | rfl
      · exact h2 y hy
      · exact pd_put z p o (h2 z (List.mem_of_getElem? e)) ho
theorem pd_sub : ∀ (t : Ht) (p : List Nat) (y : Ht), Pd t.d → t.sub p = some y → Pd y.d
  | t, [], y, h, e => by
    rw [Ht.sub] at e
    rw [← Option.some.inj e]
    exact h
  | .hole, k :: p, y, h, e => by
    rw [Ht.sub] at e
    simp [Ht.kids] at e
  | .nd n hd ks, k :: p, y, h, e => by
    rw [Ht.sub] at e
    obtain ⟨z, e1, e2⟩ := Option.bind_eq_some_iff.mp e
    exact pd_sub z p y ((pd_nd.mp h).2 z (List.mem_of_getElem? e1)) e2
theorem hok_nd {n : Nat} {hd : List D} {ks : List Ht} : okD (Ht.nd n hd ks).d ↔ (∀ d ∈ hd, okD d) ∧ ∀ y ∈ ks, okD y.d := by
  rw [ht_d, okD_tup]
  constructor
  · intro h
    refine ⟨fun d hd' => h d (by simp [hd']), fun y hy => ?_⟩
    have := h (.tup (ks.map Ht.d)) (by simp)
    rw [okD_tup] at this
    exact this _ (List.mem_map_of_mem hy)
  · rintro ⟨h1, h2⟩ d hd'
    simp only [List.mem_cons, List.mem_append, List.not_mem_nil, or_false] at hd'
    rcases hd' with rfl | hd' | rfl
    · trivial
    · exact h1 d hd'
    · rw [okD_tup]
      intro d hd'
      obtain ⟨y, hy, rfl⟩ := List.mem_map.mp hd'
      exact h2 y hy
theorem ok_put : ∀ (t : Ht) (p : List Nat) (o : Ht), okD t.d → okD o.d → okD (t.put p o).d
  | t, [], o, _, h => by cases t <;> (rw [Ht.put]; exact h)
  | .hole, _ :: _, o, h, _ => by rw [Ht.put]; exact h
  | .nd n hd ks, k :: p, o, h, ho => by
    obtain ⟨h1, h2⟩ := hok_nd.mp h
    rw [Ht.put]
    refine hok_nd.mpr ⟨h1, fun y hy => ?_⟩
    cases e : ks[k]? with
    | none => rw [e] at hy; exact h2 y hy
    | some z =>
      rw [e] at hy
      rcases List.mem_or_eq_of_mem_set hy with hy | rfl
      · exact h2 y hy
      · exact ok_put z p o (h2 z (List.mem_of_getElem? e)) ho
theorem hpre_pos (t : Ht) : 0 < t.pre.length := by
  rw [hpre_eq]
  exact Nat.succ_pos _
mutual
theorem dep_ht : ∀ (t : Ht), (∀ x ∈ t.pre, ∀ n hd ks, x = .nd n hd ks → ∀ d ∈ hd, depD d ≤ 1) → depD t.d ≤ 2 * t.pre.length
  | .hole, _ => by
    rw [ht_hole]
    simp [depD]
  | .nd n hd ks, h => by
    rw [hpre_eq] at h ⊢
    have hk := dep_hts ks fun x hx => h x (by simp [Ht.kids, hx])
    have h0 := h (.nd n hd ks) (by simp) n hd ks rfl
    simp only [Ht.kids, List.length_cons]
    rw [ht_d, show 2 * ((hpres ks).length + 1) = (2 * (hpres ks).length + 1) + 1 from by omega, depD_tup]
    intro d hd'
    simp only [List.mem_cons, List.mem_append, List.not_mem_nil, or_false] at hd'
    rcases hd' with rfl | hd' | rfl
    · simp [natD, depD]
    · exact Nat.le_trans (h0 d hd') (by omega)
    · rw [depD_tup]
      intro d hd'
      obtain ⟨y, hy, rfl⟩ := List.mem_map.mp hd'
      exact hk y hy
theorem dep_hts : ∀ (ts : List Ht), (∀ x ∈ hpres ts, ∀ n hd ks, x = .nd n hd ks → ∀ d ∈ hd, depD d ≤ 1) → ∀ y ∈ ts, depD y.d ≤ 2 * (hpres ts).length
  | [], _, y, hy => by simp at hy
  | t :: ts, h, y, hy => by
    rw [hpres] at h ⊢
    rw [List.length_append]
    rcases List.mem_cons.mp hy with e | hy
    · rw [e]
      have := dep_ht t fun x hx => h x (by simp [hx])
      omega
    · have := dep_hts ts (fun x hx => h x (by simp [hx])) y hy
      omega
end
theorem take_sub_kid {t : Ht} {p : List Nat} {d k : Nat} {z y : Ht} (hk : p[d]? = some k) (h1 : t.sub (p.take d) = some z) (h2 : t.sub (p.take (d + 1)) = some y) : z.kids[k]? = some y := by
  have e : p.take (d + 1) = p.take d ++ [k] := by
    rw [List.take_succ, hk]
    rfl
  rw [e, sub_app, h1] at h2
  exact h2
theorem put_kid {n : Nat} {hd : List D} {ks : List Ht} {p : List Nat} {d k : Nat} {y o : Ht} (hk : p[d]? = some k) (e : ks[k]? = some y) : (Ht.nd n hd ks).put (p.drop d) o = .nd n hd (ks.set k (y.put (p.drop (d + 1)) o)) := by
  have h := (List.getElem?_eq_some_iff.mp hk)
  rw [List.drop_eq_getElem_cons h.1, h.2, Ht.put, e]
theorem sub_take {t : Ht} : ∀ {p : List Nat} {y : Ht}, t.sub p = some y → ∀ d, ∃ z, t.sub (p.take d) = some z := by
  intro p
  suffices ∀ (p : List Nat) (t y : Ht), t.sub p = some y → ∀ d, ∃ z, t.sub (p.take d) = some z from fun {y} h => this p t y h
  intro p
  induction p with
  | nil => intro t y h d; exact ⟨y, by simpa using h⟩
  | cons k p ih =>
    intro t y h d
    cases d with
    | zero => exact ⟨t, rfl⟩
    | succ d =>
      rw [Ht.sub] at h
      obtain ⟨z, e1, e2⟩ := Option.bind_eq_some_iff.mp h
      obtain ⟨w, hw⟩ := ih z y e2 d
      exact ⟨w, by rw [List.take_succ_cons, Ht.sub, e1]; exact hw⟩
theorem kid_nd {z y : Ht} {k : Nat} (h : z.kids[k]? = some y) : ∃ n hd ks, z = .nd n hd ks ∧ ks[k]? = some y := by
  cases z with
  | nd n hd ks => exact ⟨n, hd, ks, rfl, h⟩
  | hole => simp [Ht.kids] at h
theorem kid_mem : ∀ {ks : List Ht} {k : Nat} {y : Ht}, ks[k]? = some y → ∀ x ∈ y.pre, x ∈ hpres ks
  | [], _, _, h, _, _ => by simp at h
  | t :: ks, 0, y, h, x, hx => by
    simp at h
    subst h
    rw [hpres]
    exact List.mem_append_left _ hx
  | t :: ks, k + 1, y, h, x, hx => by
    rw [hpres]
    exact List.mem_append_right _ (kid_mem (by simpa using h) x hx)
theorem sub_pre : ∀ {p : List Nat} {t y : Ht}, t.sub p = some y → ∀ x ∈ y.pre, x ∈ t.pre
  | [], t, y, h, x, hx => by
    rw [Ht.sub] at h
    rw [Option.some.inj h]
    exact hx
  | k :: p, t, y, h, x, hx => by
    rw [Ht.sub] at h
    obtain ⟨z, e1, e2⟩ := Option.bind_eq_some_iff.mp h
    rw [hpre_eq]
    exact List.mem_cons_of_mem _ (kid_mem e1 x (sub_pre e2 x hx))
theorem sub_mem {p : List Nat} {t y : Ht} (h : t.sub p = some y) : y ∈ t.pre := sub_pre h y (by rw [hpre_eq]; simp)
section
variable {k : Nat} {S : Sto} {Q : D → Sto → Prop} {t o y : Ht} {p : List Nat}
theorem lput_w (hs : t.sub p = some y) (hz : t.pre.length ≤ 5000) (hk : ∀ x ∈ t.pre, x.kids.length ≤ 1000) (hp : p.length ≤ 5000) (hh : ∀ x ∈ t.pre, ∀ n hd ks, x = .nd n hd ks → hd.length ≤ 5) (hpt : Pd t.d) (hpo : Pd o.d) (h : Q (t.put p o).d S) : W (orc T (k + 1) n__law_put [t.d, .tup (p.map natD), o.d] S) Q := by
  refine orc_w (ρ := [some t.d, some (.tup (p.map natD)), some o.d, none, none, none, none, none]) rfl rfl rfl ?_
  show W (evSs _ b__law_put _ _) _
  simp only [b__law_put]
  mul_fits
  refine loopS_e natD (fun r ρ S' => ∃ (q : List Nat) (ws : List Ht) (o4 : Option D), S' = S ++ [.lst (ws.map Ht.d)] ∧ ρ = [some t.d, some (.tup (p.map natD)), some o.d, some (.ref S.length), o4, none, none, none] ∧ q ++ r = p ∧ ws.length = q.length + 1 ∧ ∀ i ≤ q.length, ∃ z, ws[i]? = some z ∧ t.sub (p.take i) = some z) ?_ ?_ p _ _ ⟨[], [t], _, rfl, rfl, rfl, rfl, fun i hi => by
    have : i = 0 := by simpa using hi
    subst this
    exact ⟨t, rfl, rfl⟩⟩
  · rintro c r ρ S' ⟨q, ws, o4, rfl, rfl, hq, hl, hw⟩
    refine ⟨trivial, ?_⟩
    obtain ⟨z, hz1, hz2⟩ := hw q.length (Nat.le_refl _)
    have hc : p[q.length]? = some c := by rw [← hq]; simp
    obtain ⟨y', hy'⟩ := sub_take hs (q.length + 1)
    have hzk := take_sub_kid hc hz2 hy'
    obtain ⟨n, hd, ks, rfl, hks⟩ := kid_nd hzk
    have hlen : q.length < 5000 := by
      have : q.length < p.length := by rw [← hq]; simp
      omega
    have ews : ∃ ws', ws = ws' ++ [.nd n hd ks] := by
      have hne : ws ≠ [] := by
        intro z
        rw [z] at hl
        simp at hl
      refine ⟨ws.dropLast, ?_⟩
      conv => lhs; rw [← List.dropLast_concat_getLast hne]
      congr 2
      rw [List.getLast_eq_getElem]
      have e := List.getElem?_eq_some_iff.mp hz1
      rw [← e.2]
      congr 1
      omega
    obtain ⟨ws', rfl⟩ := ews
    have k1 : (S ++ [Ob.lst ((ws' ++ [Ht.nd n hd ks]).map Ht.d)])[S.length]? = some (.lst (ws'.map Ht.d ++ [(Ht.nd n hd ks).d])) := by
      rw [get_end, List.map_append]
      rfl
    have k2 := at_last (ws'.map Ht.d) (Ht.nd n hd ks).d
    have k3 : atI (natD n :: (hd ++ [.tup (ks.map Ht.d)])) (-1) = some (.tup (ks.map Ht.d)) := at_last (natD n :: hd) _
    have k4 : atI (ks.map Ht.d) (c : Int) = some y'.d := by
      have hlt := (List.getElem?_eq_some_iff.mp hks).1
      rw [at_map _ _ _ hlt, (List.getElem?_eq_some_iff.mp hks).2]
    simp only [b__law_put_1]
    mul_fits
    rw [ht_d]
    mul_fits
    refine v_app k1 (Nat.lt_of_lt_of_le (m := 6001) (by simp at hl ⊢; omega) (le_size (by decide))) ?_
    rw [set_end]
    mul_fits
    refine ⟨_, .inl rfl, q ++ [c], (ws' ++ [Ht.nd n hd ks]) ++ [y'], some (natD c), ?_, rfl, by rw [← hq]; simp, by simpa using hl, fun i hi => ?_⟩
    · simp [ht_d]
    · rw [List.length_append, List.length_singleton] at hi
      by_cases e : i = q.length + 1
      · subst e
        refine ⟨y', ?_, hy'⟩
        rw [List.getElem?_append_right (by omega), hl]
        simp
      · obtain ⟨z, h1, h2⟩ := hw i (by omega)
        refine ⟨z, ?_, h2⟩
        rw [List.getElem?_append_left (List.getElem?_eq_some_iff.mp h1).1]
        exact h1
  rintro ρ S' ⟨q, ws, o4, rfl, rfl, hq, hl, hw⟩
  refine ⟨trivial, ?_⟩
  rw [List.append_nil] at hq
  subst hq
  mul_fits
  simp only [b__law_put_2]
  have bd : bd62 0 ∧ bd62 (q.length : Int) := by unfold bd62; omega
  have bd' : bd62 ((q.length : Int) - 1) ∧ bd62 (-1) := by unfold bd62; omega
  mul_fits
  rw [List.length_map]
  mul_fits
  have step : ∀ (d : Nat) (g : Sto) (o4 o7 : Option D) (Q2 : Fl → Sto → Prop), d < q.length → (∀ g' o7', Q2 (.nx [some t.d, some (.tup (q.map natD)), some o.d, some (.ref S.length), o4, some (((t.sub (q.take d)).getD .hole).put (q.drop d) o).d, some (natD d), o7']) (S ++ [.lst (ws.map Ht.d)] ++ g')) →
      W (evSs (orc T k) (.cons (.set (.nm 7) (.alloc (.list (.e (.idx (.idx (.var 3) (.var 6)) (.neg (.lit (.int 1)))))))) (.cons (.sub (.var 7) (.idx (.var 1) (.var 6)) (.var 5)) (.cons (.set (.nm 5) (.bin .add (.slc (.idx (.var 3) (.var 6)) .none (.some (.neg (.lit (.int 1))))) (.tup (.cons (.agg .tuple (.e (.var 7))) .nil)))) .nil))) [some t.d, some (.tup (q.map natD)), some o.d, some (.ref S.length), o4, some (((t.sub (q.take (d + 1))).getD .hole).put (q.drop (d + 1)) o).d, some (natD d), o7] (S ++ [.lst (ws.map Ht.d)] ++ g)) Q2 := by
    intro d g o4 o7 Q2 hd hQ
    have hc : q[d]? = some q[d] := List.getElem?_eq_getElem hd
    generalize q[d] = c at hc
    obtain ⟨z, hz1, hz2⟩ := hw d (by omega)
    obtain ⟨y', hy'⟩ := sub_take hs (d + 1)
    have hzk := take_sub_kid hc hz2 hy'
    obtain ⟨n, hd', ks, rfl, hks⟩ := kid_nd hzk
    have hd5 := hh _ (sub_mem hz2) n hd' ks rfl
    have hklt := (List.getElem?_eq_some_iff.mp hks).1
    rw [hz2, Option.getD_some, put_kid hc hks] at hQ
    rw [hy', Option.getD_some]
    have k1 : ∀ g, (S ++ [Ob.lst (ws.map Ht.d)] ++ g)[S.length]? = some (.lst (ws.map Ht.d)) := fun g => get_mid _ _ _
    have k2 : atI (ws.map Ht.d) (d : Int) = some (.tup (natD n :: (hd' ++ [.tup (ks.map Ht.d)]))) := by
      have e := List.getElem?_eq_some_iff.mp hz1
      rw [at_map _ _ _ e.1, e.2, ht_d]
    have k3 : atI (natD n :: (hd' ++ [.tup (ks.map Ht.d)])) (-1) = some (.tup (ks.map Ht.d)) := at_last (natD n :: hd') _
    have k4 : atI (q.map natD) (d : Int) = some (natD c) := by
      rw [at_map _ _ _ hd, (List.getElem?_eq_some_iff.mp hc).2]
    have kk1 := k1 g
    have k5 : (S ++ [Ob.lst (ws.map Ht.d)] ++ g ++ [Ob.lst (ks.map Ht.d)])[(S ++ [Ob.lst (ws.map Ht.d)] ++ g).length]? = some (.lst (ks.map Ht.d)) := get_end _ _
    have k6 : (S ++ [Ob.lst (ws.map Ht.d)] ++ g ++ [Ob.lst ((ks.map Ht.d).set c (y'.put (q.drop (d + 1)) o).d)])[(S ++ [Ob.lst (ws.map Ht.d)] ++ g).length]? = some (.lst ((ks.map Ht.d).set c (y'.put (q.drop (d + 1)) o).d)) := get_end _ _
    have k7 : (S ++ [Ob.lst (ws.map Ht.d)] ++ g ++ [Ob.lst ((ks.map Ht.d).set c (y'.put (q.drop (d + 1)) o).d)])[S.length]? = some (.lst (ws.map Ht.d)) := by
      rw [List.append_assoc (S ++ _)]
      exact k1 _
    mul_fits
    refine v_set k5 (ix_nat (by rw [List.length_map]; exact hklt)) ?_
    rw [set_end]
    mul_fits
    rw [show (natD n :: (hd' ++ [D.tup (ks.map Ht.d)])) = (natD n :: hd') ++ [D.tup (ks.map Ht.d)] from rfl, cut_init]
    refine v_addT (by simp only [List.length_cons, List.length_nil]; exact le_size (by omega)) ?_
    mul_fits
    have e : D.tup (natD n :: hd' ++ [D.tup ((ks.map Ht.d).set c (y'.put (q.drop (d + 1)) o).d)]) = (Ht.nd n hd' (ks.set c (y'.put (q.drop (d + 1)) o))).d := by
      rw [ht_d, List.map_set]
      rfl
    rw [e, List.append_assoc (S ++ _)]
    exact hQ _ _
  rw [rgD0]
  refine loopS_e natD (fun r ρ S' => ∃ (g : Sto) (o4 o6 o7 : Option D), S' = S ++ [.lst (ws.map Ht.d)] ++ g ∧ ρ = [some t.d, some (.tup (q.map natD)), some o.d, some (.ref S.length), o4, some (((t.sub (q.take r.length)).getD .hole).put (q.drop r.length) o).d, o6, o7] ∧ r = List.range' (q.length - r.length) r.length ∧ r.length ≤ q.length) ?_ ?_ (List.range q.length) _ _ ⟨[], _, _, _, by simp, by
    have e : t.sub (q.take q.length) = some y := by rw [List.take_length]; exact hs
    simp only [List.length_range, e, Option.getD_some, List.drop_length]
    have : y.put [] o = o := by cases y <;> rw [Ht.put]
    rw [this]
    rfl, by simp [List.range_eq_range'], by simp⟩
  · rintro i r ρ S' ⟨g, o4, o6, o7, rfl, rfl, hr, hrl⟩
    refine ⟨trivial, ?_⟩
    rw [List.length_cons] at hr hrl
    rw [rg'_cons, List.cons.injEq] at hr
    obtain ⟨rfl, hr⟩ := hr
    simp only [b__law_put_3]
    refine w_scons (W_mono (Q := fun fl S1 => fl = .nx [some t.d, some (.tup (q.map natD)), some o.d, some (.ref S.length), some (natD (q.length - (r.length + 1))), some (((t.sub (q.take (r.length + 1))).getD .hole).put (q.drop (r.length + 1)) o).d, some (natD r.length), o7] ∧ S1 = S ++ [.lst (ws.map Ht.d)] ++ g) ?_ fun fl S1 ⟨e1, e2⟩ => ?_)
    · mul_fits
      rw [List.length_map, show ((q.length : Int) - 1 - ((q.length - (r.length + 1) : Nat) : Int)) = ((r.length : Nat) : Int) from by omega]
      exact ⟨rfl, rfl⟩
    subst e1 e2
    refine w_nx ?_
    refine step r.length g _ _ _ (by omega) fun g' o7' => ?_
    refine ⟨_, .inl rfl, g', _, _, _, rfl, rfl, ?_, by omega⟩
    rw [show q.length - r.length = q.length - (r.length + 1) + 1 from by omega]
    exact hr
  · rintro ρ S' ⟨g, o4, o6, o7, rfl, rfl, hr⟩
    refine ⟨trivial, ?_⟩
    mul_fits
    simp only [b__law_put_4]
    mul_fits
    have e : ((t.sub (q.take ([] : List Nat).length)).getD .hole).put (q.drop ([] : List Nat).length) o = t.put q o := by simp [Ht.sub]
    rw [e, List.append_assoc, gc_app ((pd_put t q o hpt hpo).b _)]
    refine w_ok ?_
    exact h
theorem put_at_w (hs : t.sub p = some y) (hz : t.pre.length ≤ 5000) (hk : ∀ x ∈ t.pre, x.kids.length ≤ 1000) (hp : p.length ≤ 5000) (hh : ∀ x ∈ t.pre, ∀ n hd ks, x = .nd n hd ks → hd.length ≤ 5) (hpt : Pd t.d) (hpo : Pd o.d) (h : Q (t.put p o).d S) : W (orc T (k + 1) n_put_at [t.d, .tup (p.map natD), o.d] S) Q := by
  refine orc_w (ρ := [some t.d, some (.tup (p.map natD)), some o.d, none, none, none, none, none]) rfl rfl rfl ?_
  show W (evSs _ b_put_at _ _) _
  simp only [b_put_at]
  mul_fits
  refine loopS_e natD (fun r ρ S' => ∃ (q : List Nat) (ws : List Ht) (o4 : Option D), S' = S ++ [.lst (ws.map Ht.d)] ∧ ρ = [some t.d, some (.tup (p.map natD)), some o.d, some (.ref S.length), o4, none, none, none] ∧ q ++ r = p ∧ ws.length = q.length + 1 ∧ ∀ i ≤ q.length, ∃ z, ws[i]? = some z ∧ t.sub (p.take i) = some z) ?_ ?_ p _ _ ⟨[], [t], _, rfl, rfl, rfl, rfl, fun i hi => by
    have : i = 0 := by simpa using hi
    subst this
    exact ⟨t, rfl, rfl⟩⟩
  · rintro c r ρ S' ⟨q, ws, o4, rfl, rfl, hq, hl, hw⟩
    refine ⟨trivial, ?_⟩
    obtain ⟨z, hz1, hz2⟩ := hw q.length (Nat.le_refl _)
    have hc : p[q.length]? = some c := by rw [← hq]; simp
    obtain ⟨y', hy'⟩ := sub_take hs (q.length + 1)
    have hzk := take_sub_kid hc hz2 hy'
    obtain ⟨n, hd, ks, rfl, hks⟩ := kid_nd hzk
    have hlen : q.length < 5000 := by
      have : q.length < p.length := by rw [← hq]; simp
      omega
    have ews : ∃ ws', ws = ws' ++ [.nd n hd ks] := by
      have hne : ws ≠ [] := by
        intro z
        rw [z] at hl
        simp at hl
      refine ⟨ws.dropLast, ?_⟩
      conv => lhs; rw [← List.dropLast_concat_getLast hne]
      congr 2
      rw [List.getLast_eq_getElem]
      have e := List.getElem?_eq_some_iff.mp hz1
      rw [← e.2]
      congr 1
      omega
    obtain ⟨ws', rfl⟩ := ews
    have k1 : (S ++ [Ob.lst ((ws' ++ [Ht.nd n hd ks]).map Ht.d)])[S.length]? = some (.lst (ws'.map Ht.d ++ [(Ht.nd n hd ks).d])) := by
      rw [get_end, List.map_append]
      rfl
    have k2 := at_last (ws'.map Ht.d) (Ht.nd n hd ks).d
    have k3 : atI (natD n :: (hd ++ [.tup (ks.map Ht.d)])) (-1) = some (.tup (ks.map Ht.d)) := at_last (natD n :: hd) _
    have k4 : atI (ks.map Ht.d) (c : Int) = some y'.d := by
      have hlt := (List.getElem?_eq_some_iff.mp hks).1
      rw [at_map _ _ _ hlt, (List.getElem?_eq_some_iff.mp hks).2]
    simp only [b_put_at_1]
    mul_fits
    rw [ht_d]
    mul_fits
    refine v_app k1 (Nat.lt_of_lt_of_le (m := 6001) (by simp at hl ⊢; omega) (le_size (by decide))) ?_
    rw [set_end]
    mul_fits
    refine ⟨_, .inl rfl, q ++ [c], (ws' ++ [Ht.nd n hd ks]) ++ [y'], some (natD c), ?_, rfl, by rw [← hq]; simp, by simpa using hl, fun i hi => ?_⟩
    · simp [ht_d]
    · rw [List.length_append, List.length_singleton] at hi
      by_cases e : i = q.length + 1
      · subst e
        refine ⟨y', ?_, hy'⟩
        rw [List.getElem?_append_right (by omega), hl]
        simp
      · obtain ⟨z, h1, h2⟩ := hw i (by omega)
        refine ⟨z, ?_, h2⟩
        rw [List.getElem?_append_left (List.getElem?_eq_some_iff.mp h1).1]
        exact h1
  rintro ρ S' ⟨q, ws, o4, rfl, rfl, hq, hl, hw⟩
  refine ⟨trivial, ?_⟩
  rw [List.append_nil] at hq
  subst hq
  mul_fits
  simp only [b_put_at_2]
  have bd : bd62 0 ∧ bd62 (q.length : Int) := by unfold bd62; omega
  have bd' : bd62 ((q.length : Int) - 1) ∧ bd62 (-1) := by unfold bd62; omega
  mul_fits
  rw [List.length_map]
  mul_fits
  have step : ∀ (d : Nat) (g : Sto) (o4 o7 : Option D) (Q2 : Fl → Sto → Prop), d < q.length → (∀ g' o7', Q2 (.nx [some t.d, some (.tup (q.map natD)), some o.d, some (.ref S.length), o4, some (((t.sub (q.take d)).getD .hole).put (q.drop d) o).d, some (natD d), o7']) (S ++ [.lst (ws.map Ht.d)] ++ g')) →
      W (evSs (orc T k) (.cons (.set (.nm 7) (.alloc (.list (.e (.idx (.idx (.var 3) (.var 6)) (.neg (.lit (.int 1)))))))) (.cons (.sub (.var 7) (.idx (.var 1) (.var 6)) (.var 5)) (.cons (.set (.nm 5) (.bin .add (.slc (.idx (.var 3) (.var 6)) .none (.some (.neg (.lit (.int 1))))) (.tup (.cons (.agg .tuple (.e (.var 7))) .nil)))) .nil))) [some t.d, some (.tup (q.map natD)), some o.d, some (.ref S.length), o4, some (((t.sub (q.take (d + 1))).getD .hole).put (q.drop (d + 1)) o).d, some (natD d), o7] (S ++ [.lst (ws.map Ht.d)] ++ g)) Q2 := by
    intro d g o4 o7 Q2 hd hQ
    have hc : q[d]? = some q[d] := List.getElem?_eq_getElem hd
    generalize q[d] = c at hc
    obtain ⟨z, hz1, hz2⟩ := hw d (by omega)
    obtain ⟨y', hy'⟩ := sub_take hs (d + 1)
    have hzk := take_sub_kid hc hz2 hy'
    obtain ⟨n, hd', ks, rfl, hks⟩ := kid_nd hzk
    have hd5 := hh _ (sub_mem hz2) n hd' ks rfl
    have hklt := (List.getElem?_eq_some_iff.mp hks).1
    rw [hz2, Option.getD_some, put_kid hc hks] at hQ
    rw [hy', Option.getD_some]
    have k1 : ∀ g, (S ++ [Ob.lst (ws.map Ht.d)] ++ g)[S.length]? = some (.lst (ws.map Ht.d)) := fun g => get_mid _ _ _
    have k2 : atI (ws.map Ht.d) (d : Int) = some (.tup (natD n :: (hd' ++ [.tup (ks.map Ht.d)]))) := by
      have e := List.getElem?_eq_some_iff.mp hz1
      rw [at_map _ _ _ e.1, e.2, ht_d]
    have k3 : atI (natD n :: (hd' ++ [.tup (ks.map Ht.d)])) (-1) = some (.tup (ks.map Ht.d)) := at_last (natD n :: hd') _
    have k4 : atI (q.map natD) (d : Int) = some (natD c) := by
      rw [at_map _ _ _ hd, (List.getElem?_eq_some_iff.mp hc).2]
    have kk1 := k1 g
    have k5 : (S ++ [Ob.lst (ws.map Ht.d)] ++ g ++ [Ob.lst (ks.map Ht.d)])[(S ++ [Ob.lst (ws.map Ht.d)] ++ g).length]? = some (.lst (ks.map Ht.d)) := get_end _ _
    have k6 : (S ++ [Ob.lst (ws.map Ht.d)] ++ g ++ [Ob.lst ((ks.map Ht.d).set c (y'.put (q.drop (d + 1)) o).d)])[(S ++ [Ob.lst (ws.map Ht.d)] ++ g).length]? = some (.lst ((ks.map Ht.d).set c (y'.put (q.drop (d + 1)) o).d)) := get_end _ _
    have k7 : (S ++ [Ob.lst (ws.map Ht.d)] ++ g ++ [Ob.lst ((ks.map Ht.d).set c (y'.put (q.drop (d + 1)) o).d)])[S.length]? = some (.lst (ws.map Ht.d)) := by
      rw [List.append_assoc (S ++ _)]
      exact k1 _
    mul_fits
    refine v_set k5 (ix_nat (by rw [List.length_map]; exact hklt)) ?_
    rw [set_end]
    mul_fits
    rw [show (natD n :: (hd' ++ [D.tup (ks.map Ht.d)])) = (natD n :: hd') ++ [D.tup (ks.map Ht.d)] from rfl, cut_init]
    refine v_addT (by simp only [List.length_cons, List.length_nil]; exact le_size (by omega)) ?_
    mul_fits
    have e : D.tup (natD n :: hd' ++ [D.tup ((ks.map Ht.d).set c (y'.put (q.drop (d + 1)) o).d)]) = (Ht.nd n hd' (ks.set c (y'.put (q.drop (d + 1)) o))).d := by
      rw [ht_d, List.map_set]
      rfl
    rw [e, List.append_assoc (S ++ _)]
    exact hQ _ _
  rw [rgdD_nat]
  refine loopS_e natD (fun r ρ S' => ∃ (g : Sto) (o4 o6 o7 : Option D), S' = S ++ [.lst (ws.map Ht.d)] ++ g ∧ ρ = [some t.d, some (.tup (q.map natD)), some o.d, some (.ref S.length), o4, some (((t.sub (q.take r.length)).getD .hole).put (q.drop r.length) o).d, o6, o7] ∧ r = (List.range r.length).reverse ∧ r.length ≤ q.length) ?_ ?_ (List.range q.length).reverse _ _ ⟨[], _, _, _, by simp, by
    have e : t.sub (q.take q.length) = some y := by rw [List.take_length]; exact hs
    simp only [List.length_reverse, List.length_range, e, Option.getD_some, List.drop_length]
    have : y.put [] o = o := by cases y <;> rw [Ht.put]
    rw [this]
    rfl, by simp, by simp⟩
  · rintro i r ρ S' ⟨g, o4, o6, o7, rfl, rfl, hr, hrl⟩
    refine ⟨trivial, ?_⟩
    rw [List.length_cons] at hr hrl
    rw [List.range_succ, List.reverse_append, List.reverse_singleton, List.singleton_append, List.cons.injEq] at hr
    obtain ⟨rfl, hr⟩ := hr
    simp only [b_put_at_3]
    refine step r.length g _ _ _ (by omega) fun g' o7' => ?_
    exact ⟨_, .inl rfl, g', _, _, _, rfl, rfl, hr, by omega⟩
  · rintro ρ S' ⟨g, o4, o6, o7, rfl, rfl, hr⟩
    refine ⟨trivial, ?_⟩
    mul_fits
    simp only [b_put_at_4]
    mul_fits
    have e : ((t.sub (q.take ([] : List Nat).length)).getD .hole).put (q.drop ([] : List Nat).length) o = t.put q o := by simp [Ht.sub]
    rw [e, List.append_assoc, gc_app ((pd_put t q o hpt hpo).b _)]
    refine w_ok ?_
    exact h
end
abbrev pD (p : List Nat) : D := .tup (p.map natD)
def Blw (S : Sto) (t : Gt) (b : Nat) : Prop := ∃ rs : List Nat, S[b]? = some (.lst (rs.map D.ref)) ∧ rs.length = t.pre.length ∧ ∀ (i : Nat) (x : Gt), t.pre[i]? = some x → ∃ r, atI (rs.map D.ref) (i : Int) = some (.ref r) ∧ S[r]? = some (.lst ((gstarts (i + 1) x.kids).map natD))
theorem GFlat.blw {S G : Sto} {t : Gt} {a b : Nat} (h : GFlat S G t a b) : Blw (S ++ G) t b := h.below
theorem Blw.pre {S R : Sto} {t : Gt} {b : Nat} (h : Blw S t b) : Blw (S ++ R) t b := by
  obtain ⟨rs, h1, h2, h3⟩ := h
  refine ⟨rs, get_pre h1, h2, fun i x hx => ?_⟩
  obtain ⟨r, h4, h5⟩ := h3 i x hx
  exact ⟨r, h4, get_pre h5⟩
theorem pathsG {t : Ht} : ∀ (i : Nat) (x : Gt) (k : Nat) (u : List Nat), t.g.pre[i]? = some x → (paths t)[i]? = some u → k < x.kids.length → (paths t)[i + 1 + goff k x.kids]? = some (u ++ [k]) := fun i x k u h1 h2 h3 => gat_kid (f := fun _ u k => u ++ [k]) t.g [] i x u k h1 h2 h3
theorem paths_zero (t : Ht) : (paths t)[0]? = some [] := by
  unfold paths
  rw [gat_eq]
  rfl
theorem paths_lt {t : Ht} {n : Nat} (hk : ∀ x ∈ t.pre, x.kids.length ≤ n) : ∀ p ∈ paths t, p.length ≤ t.pre.length := by
  intro p hp
  obtain ⟨i, hi, e⟩ := List.mem_iff_getElem.mp hp
  have : ∀ (i : Nat) (p : List Nat), (paths t)[i]? = some p → p.length ≤ i := by
    intro i
    induction i using Nat.strongRecOn with
    | _ i ih =>
    intro p hp
    cases i with
    | zero =>
      rw [paths_zero] at hp
      cases hp
      simp
    | succ q =>
      have hq : q + 1 < t.g.pre.length := by
        rw [hg_len, ← paths_len]
        exact (List.getElem?_eq_some_iff.mp hp).1
      obtain ⟨j, y, k, h1, h2, h3, h4⟩ := gparent t.g q hq
      have hj : j < (paths t).length := by
        rw [paths_len, ← hg_len]
        exact (List.getElem?_eq_some_iff.mp h2).1
      have hu : (paths t)[j]? = some (paths t)[j] := List.getElem?_eq_getElem hj
      have := pathsG j y k _ h2 hu h3
      rw [← h4, hp] at this
      rw [Option.some.inj this]
      have := ih j h1 _ hu
      simp
      omega
  have h1 := this i p (by rw [List.getElem?_eq_getElem hi, e])
  rw [paths_len] at hi
  omega
section
variable {k : Nat} {S : Sto} {Q : D → Sto → Prop} {t : Ht}
theorem paths_of_w {b : Nat} (hB : Blw S t.g b) (hz : t.pre.length ≤ 5000) (hk : ∀ x ∈ t.pre, x.kids.length ≤ 1000) (h : Q (.ref S.length) (S ++ [.lst ((paths t).map pD)])) : W (orc T (k + 1) n_paths_of [.ref b] S) Q := by
  refine orc_w (ρ := [some (.ref b), none, none, none]) rfl rfl rfl ?_
  show W (evSs _ b_paths_of _ _) _
  simp only [b_paths_of]
  obtain ⟨rs, kb, hrl, hbl⟩ := hB
  rw [hg_len] at hrl
  mul_fits
  refine ⟨by rw [List.length_map]; exact le_size (by omega), ?_⟩
  refine loopQ_m D.ref (fun _ => pD []) (fun Sx => Sx = S) _ (fun r _ Sx e => ?_) (fun Sx e => ?_) _ rfl
  · subst e
    refine ⟨kb, ?_⟩
    mul_fits
    exact ⟨rfl, rfl⟩
  subst e
  refine ⟨kb, ?_⟩
  have kb' : ∀ o, (Sx ++ [o])[b]? = some (.lst (rs.map D.ref)) := fun o => get_pre kb
  have kb1 := kb' (.lst (rs.map fun _ => pD []))
  mul_fits
  rw [List.length_map, hrl]
  have bd : bd62 0 ∧ bd62 (t.pre.length : Int) := by unfold bd62; omega
  mul_fits
  rw [rgD_0]
  refine loopS_e natD (fun r ρ S' => ∃ (i m : Nat) (A : List (List Nat)) (o2 o3 : Option D), i + m = t.pre.length ∧ r = List.range' i m ∧ S' = Sx ++ [.lst (A.map pD)] ∧ ρ = [some (.ref b), some (.ref Sx.length), o2, o3] ∧ Agr t.g A (paths t) i 0) ?_ ?_ _ _ _ ⟨0, t.pre.length, rs.map fun _ => [], _, _, by omega, rfl, by rw [List.map_map]; rfl, rfl, .start (by rw [List.length_map, paths_len, hrl]) (by
    rw [paths_zero]
    have : 0 < rs.length := by rw [hrl]; exact hpre_pos t
    simp [this])⟩
  · rintro i r ρ S' ⟨i', m, A, o2, o3, him, hr, rfl, rfl, ag⟩
    refine ⟨trivial, ?_⟩
    cases m with
    | zero => exact absurd hr (by simp)
    | succ m =>
    rw [rg'_cons, List.cons.injEq] at hr
    obtain ⟨rfl, rfl⟩ := hr
    have hi : i < t.g.pre.length := by rw [hg_len]; omega
    have hx : t.g.pre[i]? = some t.g.pre[i] := List.getElem?_eq_getElem hi
    generalize t.g.pre[i] = x at hx
    obtain ⟨xr, kr, kx⟩ := hbl i x hx
    have hxk : x.kids.length ≤ 1000 := hg_klen hk x (List.mem_of_getElem? hx)
    obtain ⟨u, hu⟩ : ∃ u, (paths t)[i]? = some u := ⟨_, List.getElem?_eq_getElem (by rw [paths_len]; omega)⟩
    have hul : u.length ≤ t.pre.length := paths_lt hk u (List.mem_of_getElem? hu)
    simp only [b_paths_of_1]
    have kb2 := kb' (.lst (A.map pD))
    have kx2 : (Sx ++ [Ob.lst (A.map pD)])[xr]? = some (.lst ((gstarts (i + 1) x.kids).map natD)) := get_pre kx
    mul_fits
    rw [List.length_map, gstarts_len]
    have bd : bd62 0 ∧ bd62 (x.kids.length : Int) := by unfold bd62; omega
    mul_fits
    rw [rgD_0]
    refine loopS_e natD (fun r ρ S' => ∃ (j m : Nat) (A : List (List Nat)) (o3 : Option D), j + m = x.kids.length ∧ r = List.range' j m ∧ S' = Sx ++ [.lst (A.map pD)] ∧ ρ = [some (.ref b), some (.ref Sx.length), some (natD i), o3] ∧ Agr t.g A (paths t) i j) ?_ ?_ _ _ _ ⟨0, x.kids.length, A, _, by omega, rfl, rfl, rfl, ag⟩
    · rintro j r ρ S' ⟨j', m', A, o3, hjm, hr, rfl, rfl, ag⟩
      refine ⟨trivial, ?_⟩
      cases m' with
      | zero => exact absurd hr (by simp)
      | succ m' =>
      rw [rg'_cons, List.cons.injEq] at hr
      obtain ⟨rfl, rfl⟩ := hr
      have hj : j < x.kids.length := by omega
      have hlt := gpre_lt hx hj
      have kb3 := kb' (.lst (A.map pD))
      have kx3 : (Sx ++ [Ob.lst (A.map pD)])[xr]? = some (.lst ((gstarts (i + 1) x.kids).map natD)) := get_pre kx
      have kA : (Sx ++ [Ob.lst (A.map pD)])[Sx.length]? = some (.lst (A.map pD)) := get_end _ _
      have hAi := ag.self' hi
      rw [hu] at hAi
      have kAi : atI (A.map pD) (i : Int) = some (pD u) := by
        have e := List.getElem?_eq_some_iff.mp hAi
        rw [at_map _ _ _ e.1, e.2]
      have ks := at_starts (i := i) hj
      have hAl : A.length = t.pre.length := by rw [ag.len, paths_len]
      simp only [b_paths_of_2]
      mul_fits
      refine v_addT (by rw [List.length_map]; exact le_size (by simp; omega)) ?_
      mul_fits
      refine v_set kA (ix_nat (by rw [List.length_map, hAl, ← hg_len]; exact hlt)) ?_
      rw [set_end]
      mul_fits
      refine ⟨_, .inl rfl, j + 1, m', A.set (i + 1 + goff j x.kids) (u ++ [j]), _, by omega, rfl, by rw [List.map_set]; simp [pD], rfl, ag.step hx (pathsG i x j u hx hu hj)⟩
    · rintro ρ S' ⟨j, m', A, o3, hjm, hr, rfl, rfl, ag⟩
      refine ⟨trivial, ?_⟩
      cases m' with
      | succ m' => exact absurd hr (by simp [rg'_cons])
      | zero =>
      mul_fits
      exact ⟨_, .inl rfl, i + 1, m, A, _, _, by omega, rfl, rfl, rfl, ag.next hx (by omega)⟩
  · rintro ρ S' ⟨i, m, A, o2, o3, him, hr, rfl, rfl, ag⟩
    refine ⟨trivial, ?_⟩
    cases m with
    | succ m => exact absurd hr (by simp [rg'_cons])
    | zero =>
    have := ag.done (by rw [paths_len, hg_len]) (by rw [hg_len]; omega)
    subst this
    mul_fits
    simp only [b_paths_of_3]
    mul_fits
    rw [gc_out (by simp [below])]
    exact w_ok h
end
section
variable {k : Nat} {S : Sto} {Q : D → Sto → Prop} {t : Ht}
theorem lpaths_w (hP : ∀ x ∈ t.g.pre, LParts k x) (hpt : Pd t.d) (hz : t.pre.length ≤ 3000) (hk : ∀ x ∈ t.pre, x.kids.length ≤ 10) (h : ∀ (G : Sto) (c : Nat), S.length ≤ c → (S ++ G)[c]? = some (.lst (((paths t).zip t.pre).map fun q => D.tup [pD q.1, q.2.d])) → Q (.ref c) (S ++ G)) : W (orc T (k + 3) n__law_paths [t.d] S) Q := by
  refine orc_w (ρ := [some t.d, none, none, none, none, none, none]) rfl rfl rfl ?_
  show W (evSs _ b__law_paths _ _) _
  simp only [b__law_paths]
  mul_fits
  rw [← hg_d]
  refine glflat_w hP (by rw [hg_len]; exact hz) (hg_klen hk) fun G a b c fl kc => ?_
  rw [hg_d]
  have hB := fl.blw
  have ka := fl.na
  rw [hg_preD] at ka
  obtain ⟨rs, kb, hrl, hbl⟩ := hB
  rw [hg_len] at hrl
  refine w_may (show bindN (.tup [1, 2]) (.ref c) _ _ = some [some t.d, some (.ref a), some (.ref b), none, none, none, none] from by simp only [bindN, sq_lst kc, Option.bind_some]; rfl) ?_
  generalize hSx : S ++ G = Sx at *
  mul_fits
  refine ⟨by rw [List.length_map]; exact le_size (by omega), ?_⟩
  refine loopQ_m Ht.d (fun _ => pD []) (fun Sy => Sy = Sx) _ (fun r _ Sy e => ?_) (fun Sy e => ?_) _ rfl
  · subst e
    refine ⟨ka, ?_⟩
    mul_fits
    exact ⟨rfl, rfl⟩
  subst e
  refine ⟨ka, ?_⟩
  have ka' : ∀ o, (Sy ++ [o])[a]? = some (.lst (t.pre.map Ht.d)) := fun o => get_pre ka
  have ka1 := ka' (.lst (t.pre.map fun _ => pD []))
  have kb' : ∀ o, (Sy ++ [o])[b]? = some (.lst (rs.map D.ref)) := fun o => get_pre kb
  have kb1 := kb' (.lst (t.pre.map fun _ => pD []))
  mul_fits
  rw [List.length_map]
  have bd : bd62 0 ∧ bd62 (t.pre.length : Int) := by unfold bd62; omega
  mul_fits
  rw [rgD_0]
  refine loopS_e natD (fun r ρ S' => ∃ (i m : Nat) (A : List (List Nat)) (o2 o3 : Option D), i + m = t.pre.length ∧ r = List.range' i m ∧ S' = Sy ++ [.lst (A.map pD)] ∧ ρ = [some t.d, some (.ref a), some (.ref b), some (.ref Sy.length), o2, o3, none] ∧ Agr t.g A (paths t) i 0) ?_ ?_ _ _ _ ⟨0, t.pre.length, t.pre.map fun _ => [], _, _, by omega, rfl, by rw [List.map_map]; rfl, rfl, .start (by rw [List.length_map, paths_len]) (by
    rw [paths_zero]
    have : 0 < t.pre.length := hpre_pos t
    simp [this])⟩
  · rintro i r ρ S' ⟨i', m, A, o2, o3, him, hr, rfl, rfl, ag⟩
    refine ⟨trivial, ?_⟩
    cases m with
    | zero => exact absurd hr (by simp)
    | succ m =>
    rw [rg'_cons, List.cons.injEq] at hr
    obtain ⟨rfl, rfl⟩ := hr
    have hi : i < t.g.pre.length := by rw [hg_len]; omega
    have hx : t.g.pre[i]? = some t.g.pre[i] := List.getElem?_eq_getElem hi
    generalize t.g.pre[i] = x at hx
    obtain ⟨xr, kr, kx⟩ := hbl i x hx
    have hxk : x.kids.length ≤ 10 := hg_klen hk x (List.mem_of_getElem? hx)
    obtain ⟨u, hu⟩ : ∃ u, (paths t)[i]? = some u := ⟨_, List.getElem?_eq_getElem (by rw [paths_len]; omega)⟩
    have hul : u.length ≤ t.pre.length := paths_lt hk u (List.mem_of_getElem? hu)
    simp only [b__law_paths_1]
    have kb2 := kb' (.lst (A.map pD))
    have kx2 : (Sy ++ [Ob.lst (A.map pD)])[xr]? = some (.lst ((gstarts (i + 1) x.kids).map natD)) := get_pre kx
    mul_fits
    rw [List.length_map, gstarts_len]
    have bd : bd62 0 ∧ bd62 (x.kids.length : Int) := by unfold bd62; omega
    mul_fits
    rw [rgD_0]
    refine loopS_e natD (fun r ρ S' => ∃ (j m : Nat) (A : List (List Nat)) (o3 : Option D), j + m = x.kids.length ∧ r = List.range' j m ∧ S' = Sy ++ [.lst (A.map pD)] ∧ ρ = [some t.d, some (.ref a), some (.ref b), some (.ref Sy.length), some (natD i), o3, none] ∧ Agr t.g A (paths t) i j) ?_ ?_ _ _ _ ⟨0, x.kids.length, A, _, by omega, rfl, rfl, rfl, ag⟩
    · rintro j r ρ S' ⟨j', m', A, o3, hjm, hr, rfl, rfl, ag⟩
      refine ⟨trivial, ?_⟩
      cases m' with
      | zero => exact absurd hr (by simp)
      | succ m' =>
      rw [rg'_cons, List.cons.injEq] at hr
      obtain ⟨rfl, rfl⟩ := hr
      have hj : j < x.kids.length := by omega
      have hlt := gpre_lt hx hj
      have kb3 := kb' (.lst (A.map pD))
      have kx3 : (Sy ++ [Ob.lst (A.map pD)])[xr]? = some (.lst ((gstarts (i + 1) x.kids).map natD)) := get_pre kx
      have kA : (Sy ++ [Ob.lst (A.map pD)])[Sy.length]? = some (.lst (A.map pD)) := get_end _ _
      have hAi := ag.self' hi
      rw [hu] at hAi
      have kAi : atI (A.map pD) (i : Int) = some (pD u) := by
        have e := List.getElem?_eq_some_iff.mp hAi
        rw [at_map _ _ _ e.1, e.2]
      have ks := at_starts (i := i) hj
      have hAl : A.length = t.pre.length := by rw [ag.len, paths_len]
      simp only [b__law_paths_2]
      mul_fits
      refine v_addT (by rw [List.length_map]; exact le_size (by simp; omega)) ?_
      mul_fits
      refine v_set kA (ix_nat (by rw [List.length_map, hAl, ← hg_len]; exact hlt)) ?_
      rw [set_end]
      mul_fits
      refine ⟨_, .inl rfl, j + 1, m', A.set (i + 1 + goff j x.kids) (u ++ [j]), _, by omega, rfl, by rw [List.map_set]; simp [pD], rfl, ag.step hx (pathsG i x j u hx hu hj)⟩
    · rintro ρ S' ⟨j, m', A, o3, hjm, hr, rfl, rfl, ag⟩
      refine ⟨trivial, ?_⟩
      cases m' with
      | succ m' => exact absurd hr (by simp [rg'_cons])
      | zero =>
      mul_fits
      exact ⟨_, .inl rfl, i + 1, m, A, _, _, by omega, rfl, rfl, rfl, ag.next hx (by omega)⟩
  · rintro ρ S' ⟨i, m, A, o2, o3, him, hr, rfl, rfl, ag⟩
    refine ⟨trivial, ?_⟩
    cases m with
    | succ m => exact absurd hr (by simp [rg'_cons])
    | zero =>
    have := ag.done (by rw [paths_len, hg_len]) (by rw [hg_len]; omega)
    subst this
    mul_fits
    simp only [b__law_paths_3]
    have ka9 := ka' (.lst ((paths t).map pD))
    have kp9 : (Sy ++ [Ob.lst ((paths t).map pD)])[Sy.length]? = some (.lst ((paths t).map pD)) := get_end _ _
    mul_fits
    rw [List.length_map]
    mul_fits
    rw [rgD0]
    refine ⟨by rw [List.length_map, List.length_range]; exact le_size (by omega), ?_⟩
    refine loopQ_m natD (fun i => D.tup [pD ((paths t).getD i []), (t.pre.getD i .hole).d]) (fun Sz => Sz = Sy ++ [Ob.lst ((paths t).map pD)]) _ (fun i hi Sz e => ?_) (fun Sz e => ?_) _ rfl
    · subst e
      refine ⟨trivial, ?_⟩
      have hi := List.mem_range.mp hi
      have hi2 : i < (paths t).length := by rw [paths_len]; exact hi
      have q1 : atI ((paths t).map pD) (i : Int) = some (pD ((paths t).getD i [])) := by
        rw [at_map _ _ _ hi2]
        simp [List.getD, hi2]
      have q2 : atI (t.pre.map Ht.d) (i : Int) = some (t.pre.getD i .hole).d := by
        rw [at_map _ _ _ hi]
        simp [List.getD, hi]
      mul_fits
      exact ⟨rfl, rfl⟩
    subst e
    refine ⟨trivial, ?_⟩
    mul_fits
    have el : ((List.range t.pre.length).map fun i => D.tup [pD ((paths t).getD i []), (t.pre.getD i .hole).d]) = ((paths t).zip t.pre).map fun q => D.tup [pD q.1, q.2.d] := by
      refine List.ext_getElem (by simp [paths_len]) fun i h1 h2 => ?_
      have hi : i < t.pre.length := by simpa using h1
      have hi2 : i < (paths t).length := by rw [paths_len]; exact hi
      simp [List.getD, hi, hi2]
    rw [el]
    generalize (((paths t).zip t.pre).map fun q => D.tup [pD q.1, q.2.d]) = fin at h ⊢
    subst hSx
    rw [gc_out (by simp [below])]
    have h2 := h (G ++ ([Ob.lst ((paths t).map pD)] ++ [Ob.lst fin])) (S ++ G ++ [Ob.lst ((paths t).map pD)]).length (by simp) (by
      rw [← List.append_assoc, ← List.append_assoc]
      exact get_end _ _)
    rw [← List.append_assoc, ← List.append_assoc] at h2
    exact w_ok h2
end
section
variable {k : Nat}
theorem lparts_ht (t : Ht) : LParts k t.g := fun S Q h => by
  rw [hg_d]
  rw [hg_kidsD] at h
  refine orc_w (ρ := [some t.d]) rfl rfl rfl ?_
  show W (evSs _ b__law_parts _ _) _
  simp only [b__law_parts]
  cases t with
  | hole =>
    rw [ht_hole]
    mul_fits
    rw [gc_out (by simp [below])]
    exact w_ok h
  | nd n hd ks =>
    rw [ht_d]
    have k1 : atI (natD n :: (hd ++ [D.tup (ks.map Ht.d)])) 0 = some (natD n) := at_nat (k := 0) _ (by simp)
    have k2 : atI (natD n :: (hd ++ [D.tup (ks.map Ht.d)])) (-1) = some (.tup (ks.map Ht.d)) := at_last (natD n :: hd) _
    mul_fits
    simp only [b__law_parts_1]
    mul_fits
    rw [gc_out (by simp [below])]
    exact w_ok h
end
mutual
def Ht.dn {β : Type} (f : Ht → β → Nat → β) : Ht → β → List β
  | .nd n hd ks, v => v :: hdns f ks (f (.nd n hd ks) v)
  | .hole, v => [v]
def hdns {β : Type} (f : Ht → β → Nat → β) : List Ht → (Nat → β) → List β
  | [], _ => []
  | t :: ts, g => t.dn f (g 0) ++ hdns f ts fun k => g (k + 1)
end
section
variable {β : Type} {f : Ht → β → Nat → β}
theorem hdn_eq (t : Ht) (v : β) : t.dn f v = v :: hdns f t.kids (f t v) := by
  cases t with
  | nd n hd ks => rw [Ht.dn]; rfl
  | hole => rw [Ht.dn]; rfl
mutual
theorem hdn_len : ∀ (t : Ht) (v : β), (t.dn f v).length = t.pre.length
  | .nd n hd ks, v => by
    have := hdns_len ks (f (.nd n hd ks) v)
    rw [Ht.dn, Ht.pre, List.length_cons, List.length_cons, this]
  | .hole, v => by rw [Ht.dn, Ht.pre]; rfl
theorem hdns_len : ∀ (ts : List Ht) (g : Nat → β), (hdns f ts g).length = (hpres ts).length
  | [], _ => rfl
  | t :: ts, g => by rw [hdns, hpres, List.length_append, List.length_append, hdn_len t, hdns_len ts]
end
theorem hdns_at : ∀ (ks : List Ht) (g : Nat → β) (k : Nat), k < ks.length → (hdns f ks g)[hoff k ks]? = some (g k)
  | [], _, _, h => by simp at h
  | t :: ks, g, 0, _ => by
    rw [hdns, hdn_eq]
    simp [hoff, hpres]
  | t :: ks, g, k + 1, h => by
    rw [hoff_succ, hdns, List.getElem?_append_right (by rw [hdn_len]; omega), hdn_len, Nat.add_sub_cancel_left]
    exact hdns_at ks _ k (by simpa using h)
mutual
theorem hdn_kid' : ∀ (t : Ht) (v : β) (i : Nat) (x : Ht) (u : β) (k : Nat), t.pre[i]? = some x → (t.dn f v)[i]? = some u → k < x.kids.length → (t.dn f v)[i + 1 + hoff k x.kids]? = some (f x u k)
  | .nd n hd ks, v, 0, x, u, k, h, h2, h3 => by
    rw [Ht.pre] at h
    rw [Ht.dn] at h2 ⊢
    simp at h h2
    subst h h2
    rw [show 0 + 1 + hoff k (Ht.nd n hd ks).kids = hoff k ks + 1 from by simp [Ht.kids]; omega, List.getElem?_cons_succ]
    exact hdns_at ks _ k h3
  | .nd n hd ks, v, i + 1, x, u, k, h, h2, h3 => by
    rw [Ht.pre] at h
    rw [Ht.dn] at h2 ⊢
    rw [show i + 1 + 1 + hoff k x.kids = (i + 1 + hoff k x.kids) + 1 from by omega, List.getElem?_cons_succ]
    exact hdns_kid ks _ i x u k (by simpa using h) (by simpa using h2) h3
  | .hole, v, 0, x, u, k, h, h2, h3 => by
    rw [Ht.pre] at h
    simp at h
    subst h
    simp [Ht.kids] at h3
  | .hole, v, i + 1, x, u, k, h, h2, h3 => by
    rw [Ht.pre] at h
    simp at h
theorem hdns_kid : ∀ (ts : List Ht) (g : Nat → β) (i : Nat) (x : Ht) (u : β) (k : Nat), (hpres ts)[i]? = some x → (hdns f ts g)[i]? = some u → k < x.kids.length → (hdns f ts g)[i + 1 + hoff k x.kids]? = some (f x u k)
  | [], _, i, x, u, k, h, _, _ => by simp [hpres] at h
  | t :: ts, g, i, x, u, k, h, h2, h3 => by
    rw [hpres] at h
    rw [hdns] at h2 ⊢
    by_cases c : i < t.pre.length
    · rw [List.getElem?_append_left c] at h
      rw [List.getElem?_append_left (by rw [hdn_len]; exact c)] at h2
      have := hdn_kid' t (g 0) i x u k h h2 h3
      rw [List.getElem?_append_left (List.getElem?_eq_some_iff.mp this).1]
      exact this
    · rw [List.getElem?_append_right (by omega)] at h
      rw [List.getElem?_append_right (by rw [hdn_len]; omega), hdn_len] at h2
      rw [List.getElem?_append_right (by rw [hdn_len]; omega), hdn_len, show i + 1 + hoff k x.kids - t.pre.length = (i - t.pre.length) + 1 + hoff k x.kids from by omega]
      exact hdns_kid ts _ _ x u k h h2 h3
end
theorem hdn_kid {t : Ht} {v : β} {i : Nat} {x : Ht} {u : β} {k : Nat} (h : t.pre[i]? = some x) (h2 : (t.dn f v)[i]? = some u) (h3 : k < x.kids.length) : (t.dn f v)[i + 1 + goff k x.g.kids]? = some (f x u k) := by
  rw [hg_kids, hoff_g]
  exact hdn_kid' t v i x u k h h2 h3
theorem hpre_kidG {t : Ht} {i : Nat} {x : Ht} {k : Nat} {y : Ht} (h : t.pre[i]? = some x) (h2 : x.kids[k]? = some y) : t.pre[i + 1 + goff k x.g.kids]? = some y := by
  rw [hg_kids]
  exact hpre_kid t i x k y h h2
/-- what stays true on the way down -/
theorem hdn_inv (P : Ht → β → Prop) {t : Ht} {v : β} (h0 : P t v) (hs : ∀ x u k y, P x u → x.kids[k]? = some y → P y (f x u k)) : ∀ (i : Nat) (x : Ht) (u : β), t.pre[i]? = some x → (t.dn f v)[i]? = some u → P x u := by
  intro i
  induction i using Nat.strongRecOn with
  | _ i ih =>
  intro x u hx hu
  cases i with
  | zero =>
    rw [hpre_eq] at hx
    rw [hdn_eq] at hu
    simp at hx hu
    subst hx hu
    exact h0
  | succ q =>
    have hq : q + 1 < t.g.pre.length := by rw [hg_len]; exact (List.getElem?_eq_some_iff.mp hx).1
    obtain ⟨j, y, k, h1, h2, h3, h4⟩ := gparent t.g q hq
    obtain ⟨z, hz, rfl⟩ := hg_get h2
    obtain ⟨w, hw⟩ : ∃ w, (t.dn f v)[j]? = some w := ⟨_, List.getElem?_eq_getElem (by rw [hdn_len]; exact (List.getElem?_eq_some_iff.mp hz).1)⟩
    have hk : k < z.kids.length := by rw [hg_kids, List.length_map] at h3; exact h3
    have e := hdn_kid hz hw hk
    rw [← h4, hu] at e
    rw [Option.some.inj e]
    have e2 := hpre_kidG hz (List.getElem?_eq_getElem hk)
    rw [← h4, hx] at e2
    rw [Option.some.inj e2]
    exact hs z w k _ (ih j h1 z w hz hw) (List.getElem?_eq_getElem hk)
end
mutual
def WfH (b : Bk) (nm : Str) : Ht → Prop
  | .nd n _ ks => ∃ r, b.rls[n]? = some r ∧ r.nm = nm ∧ WfHs b (r.sl.map (·.nm)) ks
  | .hole => False
def WfHs (b : Bk) : List Str → List Ht → Prop
  | [], [] => True
  | x :: xs, t :: ts => WfH b x t ∧ WfHs b xs ts
  | [], _ :: _ => False
  | _ :: _, [] => False
end
theorem WfHs.len {b : Bk} : ∀ {xs : List Str} {ts : List Ht}, WfHs b xs ts → ts.length = xs.length
  | [], [], _ => rfl
  | _ :: xs, _ :: ts, h => by
    rw [WfHs] at h
    rw [List.length_cons, List.length_cons, WfHs.len h.2]
  | [], _ :: _, h => by simp [WfHs] at h
  | _ :: _, [], h => by simp [WfHs] at h
theorem WfHs.get {b : Bk} : ∀ {xs : List Str} {ts : List Ht} {k : Nat} {y : Ht}, WfHs b xs ts → ts[k]? = some y → ∃ x, xs[k]? = some x ∧ WfH b x y
  | [], [], k, y, _, h => by simp at h
  | x :: xs, t :: ts, 0, y, w, h => by
    rw [WfHs] at w
    simp at h
    subst h
    exact ⟨x, rfl, w.1⟩
  | x :: xs, t :: ts, k + 1, y, w, h => by
    rw [WfHs] at w
    obtain ⟨z, h1, h2⟩ := WfHs.get w.2 (by simpa using h)
    exact ⟨z, by simpa using h1, h2⟩
  | [], _ :: _, _, _, w, _ => by simp [WfHs] at w
  | _ :: _, [], _, _, _, h => by simp at h
mutual
theorem wfh_of {b : Bk} : ∀ {nm : Str} (t : Tr), Wf b nm t → WfH b nm t.h
  | nm, .nd n ps, h => by
    rw [Wf] at h
    obtain ⟨r, h1, h2, h3⟩ := h
    rw [Tr.h, WfH]
    exact ⟨r, h1, h2, wfhs_of ps h3⟩
theorem wfhs_of {b : Bk} : ∀ {xs : List Str} (ts : List Tr), Wfs b xs ts → WfHs b xs (trh ts)
  | [], [], _ => by rw [trh, WfHs]; trivial
  | x :: xs, t :: ts, h => by
    rw [Wfs] at h
    rw [trh, WfHs]
    exact ⟨wfh_of t h.1, wfhs_of ts h.2⟩
  | [], _ :: _, h => by simp [Wfs] at h
  | _ :: _, [], h => by simp [Wfs] at h
end
def rlI (b : Bk) (n : Nat) : Rl := (b.rls[n]?).getD ⟨"", [], [], []⟩
theorem rlI_eq {b : Bk} {n : Nat} {r : Rl} (h : b.rls[n]? = some r) : rlI b n = r := by
  unfold rlI
  rw [h]
  rfl
theorem WfH.kid {b : Bk} {nm : Str} {x y : Ht} {k : Nat} (w : WfH b nm x) (h : x.kids[k]? = some y) : ∃ s, (rlI b x.num).sl[k]? = some s ∧ WfH b s.nm y := by
  cases x with
  | hole => simp [WfH] at w
  | nd n hd ks =>
    rw [WfH] at w
    obtain ⟨r, h1, h2, h3⟩ := w
    obtain ⟨z, e1, e2⟩ := h3.get (k := k) (y := y) h
    rw [List.getElem?_map] at e1
    obtain ⟨s, q1, rfl⟩ := Option.map_eq_some_iff.mp e1
    exact ⟨s, by rw [show (Ht.nd n hd ks).num = n from rfl, rlI_eq h1]; exact q1, e2⟩
theorem WfH.top {b : Bk} {nm : Str} {x : Ht} (w : WfH b nm x) : ∃ n hd ks, x = .nd n hd ks ∧ b.rls[n]? = some (rlI b n) ∧ (rlI b n).nm = nm ∧ ks.length = (rlI b n).sl.length := by
  cases x with
  | hole => simp [WfH] at w
  | nd n hd ks =>
    rw [WfH] at w
    obtain ⟨r, h1, h2, h3⟩ := w
    have := h3.len
    rw [List.length_map] at this
    exact ⟨n, hd, ks, rfl, by rw [rlI_eq h1]; exact h1, by rw [rlI_eq h1]; exact h2, by rw [rlI_eq h1]; exact this⟩
theorem WfH.node {b : Bk} {nm : Str} {t : Ht} (w : WfH b nm t) : ∀ x ∈ t.pre, ∃ nm', WfH b nm' x := fun x hx => by
  obtain ⟨i, hi, rfl⟩ := List.mem_iff_getElem.mp hx
  exact hdn_inv (f := fun _ (_ : Unit) _ => ()) (fun x _ => ∃ nm', WfH b nm' x) ⟨nm, w⟩ (fun x u k y ⟨nm', w⟩ h => by
    obtain ⟨s, _, q⟩ := w.kid h
    exact ⟨_, q⟩) i _ () (List.getElem?_eq_getElem hi) (by
      have : i < (t.dn (fun _ (_ : Unit) _ => ()) ()).length := by rw [hdn_len]; exact hi
      rw [List.getElem?_eq_getElem this])

def own (b : Bk) (x : Ht) : Nat := (rlI b x.num).ms.length
def cnt_ (b : Bk) (t : Ht) : Nat := ((t.pre).map (own b)).sum
def cntF (b : Bk) (ts : List Ht) : Nat := ((hpres ts).map (own b)).sum
def spo (b : Bk) (x : Ht) (u : List Nat × Nat) : List Nat := u.1 ++ List.range' u.2 (own b x)
def plI (b : Bk) (x : Ht) (k : Nat) : List Nat := ((rlI b x.num).sl.getD k ⟨"", []⟩).pl
def fL (b : Bk) (x : Ht) (u : List Nat × Nat) (k : Nat) : List Nat × Nat := ((plI b x k).map fun a => (spo b x u).getD a 0, u.2 + own b x + cntF b (x.kids.take k))
def lay (b : Bk) (t : Ht) (v : List Nat × Nat) : List (List Nat × Nat) := t.dn (fL b) v
def arF (b : Bk) (nm : Str) : Nat := (gS b.nms nm).getD 0
theorem cnt_eq (b : Bk) (t : Ht) : cnt_ b t = own b t + cntF b t.kids := by
  unfold cnt_ cntF
  rw [hpre_eq, List.map_cons, List.sum_cons]
theorem cntF_cons (b : Bk) (t : Ht) (ts : List Ht) : cntF b (t :: ts) = cnt_ b t + cntF b ts := by
  unfold cnt_ cntF
  rw [hpres, List.map_append, List.sum_append]
theorem cntF_take_le (b : Bk) : ∀ (ts : List Ht) (k : Nat) (y : Ht), ts[k]? = some y → cntF b (ts.take k) + cnt_ b y ≤ cntF b ts
  | [], _, _, h => by simp at h
  | t :: ts, 0, y, h => by
    simp at h
    subst h
    rw [List.take_zero, cntF_cons]
    simp [cntF, hpres]
  | t :: ts, k + 1, y, h => by
    have := cntF_take_le b ts k y (by simpa using h)
    rw [List.take_succ_cons, cntF_cons, cntF_cons]
    omega
/-- names and arities fit -/
structure BkA (b : Bk) : Prop where
  ar : ∀ (n : Nat) (r : Rl), b.rls[n]? = some r → (∀ s ∈ r.sl, s.pl.length = arF b s.nm ∧ s.pl.Nodup ∧ ∀ x ∈ s.pl, x < arF b r.nm + r.ms.length) ∧ (∀ p ∈ r.ts, PtIn (arF b r.nm + r.ms.length) p)
  nm : ∀ r ∈ b.rls, r.nm ∈ b.nms.map (·.1)
  a3 : ∀ nm, arF b nm ≤ 3
  m6 : ∀ r ∈ b.rls, r.ms.length ≤ 6
  s3 : ∀ r ∈ b.rls, r.sl.length ≤ 3
  t60 : ∀ r ∈ b.rls, r.ts.length ≤ 60
theorem gS_mem {α : Type} : ∀ {l : List (Str × α)} {s : Str} {a : α}, (l.map (·.1)).Nodup → (s, a) ∈ l → gS l s = some a
  | [], _, _, _, h => by simp at h
  | (j, b) :: l, s, a, nd, h => by
    rw [List.map_cons, List.nodup_cons] at nd
    unfold gS
    rcases List.mem_cons.mp h with e | h
    · cases e
      rw [if_pos rfl]
    · by_cases c : j = s
      · exact absurd (List.mem_map.mpr ⟨(s, a), h, rfl⟩) (by rw [← c]; exact nd.1)
      · rw [if_neg c]
        exact gS_mem nd.2 h
/-- what a node's attributes keep -/
structure LayOk (b : Bk) (N : Nat) (x : Ht) (u : List Nat × Nat) : Prop where
  wf : ∃ nm, WfH b nm x ∧ u.1.length = arF b nm
  lt : ∀ q ∈ u.1, q < N
  st : u.2 + cnt_ b x ≤ N
theorem LayOk.spo_len {b : Bk} {N : Nat} {x : Ht} {u : List Nat × Nat} (o : LayOk b N x u) : ∃ n hd ks, x = .nd n hd ks ∧ b.rls[n]? = some (rlI b n) ∧ ks.length = (rlI b n).sl.length ∧ (spo b x u).length = arF b (rlI b n).nm + (rlI b n).ms.length := by
  obtain ⟨nm, w, h1⟩ := o.wf
  obtain ⟨n, hd, ks, rfl, h2, h3, h4⟩ := w.top
  refine ⟨n, hd, ks, rfl, h2, h4, ?_⟩
  unfold spo own
  rw [List.length_append, List.length_range', h1, h3]
  rfl
theorem LayOk.spo_lt {b : Bk} {N : Nat} {x : Ht} {u : List Nat × Nat} (o : LayOk b N x u) : ∀ q ∈ spo b x u, q < N := fun q hq => by
  unfold spo at hq
  rcases List.mem_append.mp hq with h | h
  · exact o.lt q h
  · have := o.st
    rw [cnt_eq] at this
    rw [List.mem_range'_1] at h
    omega
theorem LayOk.kid {b : Bk} (A : BkA b) {N : Nat} {x : Ht} {u : List Nat × Nat} {k : Nat} {y : Ht} (o : LayOk b N x u) (h : x.kids[k]? = some y) : LayOk b N y (fL b x u k) := by
  obtain ⟨n, hd, ks, rfl, h1, h2, h3⟩ := o.spo_len
  obtain ⟨nm, w, _⟩ := o.wf
  obtain ⟨s, e1, e2⟩ := w.kid h
  have e1 : (rlI b n).sl[k]? = some s := e1
  have epl : plI b (.nd n hd ks) k = s.pl := by
    unfold plI
    rw [show (Ht.nd n hd ks).num = n from rfl, List.getD_eq_getElem?_getD, e1]
    rfl
  have hs := (A.ar n _ h1).1 s (List.mem_of_getElem? e1)
  refine ⟨⟨s.nm, e2, ?_⟩, fun q hq => ?_, ?_⟩
  · unfold fL
    rw [epl]
    show (s.pl.map _).length = _
    rw [List.length_map]
    exact hs.1
  · unfold fL at hq
    rw [epl] at hq
    obtain ⟨a, ha, rfl⟩ := List.mem_map.mp hq
    have hlt : a < (spo b (.nd n hd ks) u).length := by rw [h3]; exact hs.2.2 a ha
    rw [List.getD_eq_getElem?_getD, List.getElem?_eq_getElem hlt]
    exact o.spo_lt _ (List.getElem_mem hlt)
  · have := o.st
    rw [cnt_eq] at this
    have q := cntF_take_le b ks k y h
    show u.2 + own b _ + cntF b (ks.take k) + cnt_ b y ≤ N
    have : u.2 + (own b (.nd n hd ks) + cntF b ks) ≤ N := this
    omega
theorem lay_ok {b : Bk} (A : BkA b) {N : Nat} {t : Ht} {v : List Nat × Nat} (o : LayOk b N t v) : ∀ (i : Nat) (x : Ht) (u : List Nat × Nat), t.pre[i]? = some x → (lay b t v)[i]? = some u → LayOk b N x u := hdn_inv (fun x u => LayOk b N x u) o fun x u k y ok h => ok.kid A h
mutual
theorem lay_start (b : Bk) : ∀ (t : Ht) (v : List Nat × Nat) (i : Nat) (u : List Nat × Nat), (lay b t v)[i]? = some u → u.2 = v.2 + ((t.pre.take i).map (own b)).sum
  | .nd n hd ks, v, 0, u, h => by
    unfold lay at h
    rw [Ht.dn] at h
    simp at h
    subst h
    simp
  | .nd n hd ks, v, i + 1, u, h => by
    unfold lay at h
    rw [Ht.dn, List.getElem?_cons_succ] at h
    have := lays_start b ks (fL b (.nd n hd ks) v) (v.2 + own b (.nd n hd ks)) (fun k hk => rfl) i u h
    rw [this, Ht.pre, List.take_succ_cons, List.map_cons, List.sum_cons]
    omega
  | .hole, v, 0, u, h => by
    unfold lay at h
    rw [Ht.dn] at h
    simp at h
    subst h
    simp
  | .hole, v, i + 1, u, h => by
    unfold lay at h
    rw [Ht.dn] at h
    simp at h
theorem lays_start (b : Bk) : ∀ (ts : List Ht) (g : Nat → List Nat × Nat) (s : Nat), (∀ k, k < ts.length → (g k).2 = s + cntF b (ts.take k)) → ∀ (i : Nat) (u : List Nat × Nat), (hdns (fL b) ts g)[i]? = some u → u.2 = s + (((hpres ts).take i).map (own b)).sum
  | [], g, s, _, i, u, h => by simp [hdns] at h
  | t :: ts, g, s, hg, i, u, h => by
    rw [hdns] at h
    have h0 : (g 0).2 = s := by
      have := hg 0 (by simp)
      simpa [cntF, hpres] using this
    by_cases c : i < t.pre.length
    · rw [List.getElem?_append_left (by rw [hdn_len]; exact c)] at h
      have := lay_start b t (g 0) i u h
      rw [this, h0, hpres, List.take_append_of_le_length (Nat.le_of_lt c)]
    · rw [List.getElem?_append_right (by rw [hdn_len]; omega), hdn_len] at h
      have := lays_start b ts (fun k => g (k + 1)) (s + cnt_ b t) (fun k hk => by
        have := hg (k + 1) (by simp; omega)
        rw [List.take_succ_cons, cntF_cons] at this
        show (g (k + 1)).2 = _
        omega) _ u h
      rw [this, hpres, List.take_append, List.map_append, List.sum_append, List.take_of_length_le (show t.pre.length ≤ i by omega)]
      unfold cnt_
      omega
end
abbrev nsD (l : List Nat) : D := .tup (l.map natD)
def v0 (b : Bk) (nm : Str) : List Nat × Nat := (List.range (arF b nm), arF b nm)
def SPL (b : Bk) (t : Ht) (v : List Nat × Nat) : List (List Nat) := List.zipWith (spo b) t.pre (lay b t v)
theorem spl_len (b : Bk) (t : Ht) (v : List Nat × Nat) : (SPL b t v).length = t.pre.length := by
  unfold SPL lay
  rw [List.length_zipWith, hdn_len, Nat.min_self]
theorem spl_get {b : Bk} {t : Ht} {v : List Nat × Nat} {i : Nat} {x : Ht} {u : List Nat × Nat} (h1 : t.pre[i]? = some x) (h2 : (lay b t v)[i]? = some u) : (SPL b t v)[i]? = some (spo b x u) := by
  unfold SPL
  rw [List.getElem?_zipWith, h1, h2]
theorem v0_ok {b : Bk} {nm : Str} {t : Ht} (w : WfH b nm t) : LayOk b (arF b nm + cnt_ b t) t (v0 b nm) := ⟨⟨nm, w, by simp [v0]⟩, fun q hq => by
  simp [v0] at hq
  omega, Nat.le_refl _⟩
theorem lay_get (b : Bk) (t : Ht) (v : List Nat × Nat) {i : Nat} (h : i < t.pre.length) : ∃ u, (lay b t v)[i]? = some u := ⟨_, List.getElem?_eq_getElem (by unfold lay; rw [hdn_len]; exact h)⟩
theorem lay_len (b : Bk) (t : Ht) (v : List Nat × Nat) : (lay b t v).length = t.pre.length := by
  unfold lay
  rw [hdn_len]
section
variable {k : Nat} {S : Sto} {Q : D → Sto → Prop} {b : Bk} {t : Ht} {nm : Str}
theorem hflat_w (hz : t.pre.length ≤ 3000) (hk : ∀ x ∈ t.pre, x.kids.length ≤ 10) (h : ∀ (G : Sto) (a c : Nat), (S ++ G)[a]? = some (.lst (t.pre.map Ht.d)) → Blw (S ++ G) t.g c → S.length ≤ a → Q (.tup [.ref a, .ref c]) (S ++ G)) : W (orc T (k + 1) n_flat [t.d] S) Q := by
  rw [← hg_d]
  refine gflat_w (hg_all fun x _ => hg_parts x) (by rw [hg_len]; exact hz) (hg_klen hk) fun G a c fl ha => ?_
  have ka := fl.na
  rw [hg_preD] at ka
  exact h G a c ka fl.blw ha
theorem wf_klen (A : BkA b) {t : Ht} (w : WfH b nm t) : ∀ x ∈ t.pre, x.kids.length ≤ 10 := fun x hx => by
  obtain ⟨nm', w'⟩ := w.node x hx
  obtain ⟨n, hd, ks, rfl, h1, h2, h3⟩ := w'.top
  have := A.s3 _ (List.mem_of_getElem? h1)
  show ks.length ≤ 10
  omega
end
theorem get_off (S l : Sto) (i : Nat) : (S ++ l)[S.length + i]? = l[i]? := by
  rw [List.getElem?_append_right (by omega), Nat.add_sub_cancel_left]
section
variable {k : Nat} {S : Sto} {Q : D → Sto → Prop} {b : Bk} {t : Ht} {nm : Str}
end
def Im (B : Sto) (g : Sto) (r : Nat) (o : Ob) : Prop := B[r]? = some o ∨ ∃ i, r = B.length + 3 + i ∧ g[i]? = some o
theorem Im.get {B g l3 : Sto} {r : Nat} {o : Ob} (h : Im B g r o) (hl : l3.length = 3) : (B ++ l3 ++ g)[r]? = some o := by
  rcases h with h | ⟨i, rfl, h⟩
  · rw [List.append_assoc]
    exact get_pre h
  · rw [List.getElem?_append_right (by rw [List.length_append, hl]; omega), List.length_append, hl, Nat.add_sub_cancel_left]
    exact h
theorem Im.app {B g g2 : Sto} {r : Nat} {o : Ob} (h : Im B g r o) : Im B (g ++ g2) r o := by
  rcases h with h | ⟨i, e, h⟩
  · exact .inl h
  · exact .inr ⟨i, e, get_pre h⟩
theorem Im.new {B g : Sto} {o : Ob} : Im B (g ++ [o]) (B.length + 3 + g.length) o := .inr ⟨g.length, rfl, get_end _ _⟩
theorem set_m3 (B l g : Sto) (i : Nat) (o : Ob) (h : i < l.length) : (B ++ l ++ g).set (B.length + i) o = B ++ l.set i o ++ g := by
  rw [List.append_assoc, List.set_append_right _ _ (by omega), Nat.add_sub_cancel_left, List.set_append_left _ _ h, List.append_assoc]
theorem get_m3 (B l g : Sto) (i : Nat) (h : i < l.length) : (B ++ l ++ g)[B.length + i]? = l[i]? := by
  rw [List.append_assoc, List.getElem?_append_right (by omega), Nat.add_sub_cancel_left, List.getElem?_append_left h]
section
variable {k : Nat} {S : Sto} {Q : D → Sto → Prop} {b : Bk} {t : Ht} {nm : Str}
theorem hlflat_w (hz : t.pre.length ≤ 3000) (hk : ∀ x ∈ t.pre, x.kids.length ≤ 10) (h : ∀ (G : Sto) (a b c : Nat), (S ++ G)[a]? = some (.lst (t.pre.map Ht.d)) → Blw (S ++ G) t.g b → (S ++ G)[c]? = some (.lst [.ref a, .ref b]) → Q (.ref c) (S ++ G)) : W (orc T (k + 2) n__law_flat [t.d] S) Q := by
  rw [← hg_d]
  refine glflat_w (hg_all fun x _ => lparts_ht x) (by rw [hg_len]; exact hz) (hg_klen hk) fun G a b c fl kc => ?_
  have ka := fl.na
  rw [hg_preD] at ka
  exact h G a b c ka fl.blw kc
theorem larity_w {nm : Str} (hz : b.nms.length ≤ 100000) (h : Q (natD (arF b nm)) S) : W (orc T (k + 1) n__law_arity [b.d, .str nm] S) Q := by
  refine orc_w (ρ := [some b.d, some (.str nm), none, none]) rfl rfl rfl ?_
  show W (evSs _ b__law_arity _ _) _
  simp only [b__law_arity]
  mul_fits
  refine loopS_re prD (fun r ρ S' => ∃ o2 o3 : Option D, S' = S ∧ ρ = [some b.d, some (.str nm), o2, o3] ∧ (gS r nm).getD 0 = arF b nm) ?_ ?_ b.nms _ _ ⟨_, _, rfl, rfl, rfl⟩
  · rintro p r ρ S' ⟨o2, o3, rfl, rfl, h1⟩
    refine ⟨trivial, ?_⟩
    obtain ⟨j, c⟩ := p
    simp only [b__law_arity_1]
    mul_fits
    refine w_ifd (fun e => ?_) fun e => ?_
    · mul_fits
      unfold gS at h1
      rw [if_pos e] at h1
      have h1 : c = arF b nm := h1
      rw [h1]
      exact h
    · mul_fits
      unfold gS at h1
      rw [if_neg e] at h1
      exact ⟨_, _, rfl, rfl, h1⟩
  · rintro ρ S' ⟨o2, o3, rfl, rfl, h1⟩
    refine ⟨trivial, ?_⟩
    mul_fits
    simp only [b__law_arity_2]
    mul_fits
    have h1 : 0 = arF b nm := h1
    rw [← h1] at h
    exact h
/-- the ties of a grown web, as the law lays them -/
theorem mm_pt (a c : Nat) : D.int (if (c : Int) < (a : Int) then (c : Int) else (a : Int)) = natD (min a c) ∧ D.int (if (c : Int) > (a : Int) then (c : Int) else (a : Int)) = natD (max a c) := by
  constructor
  · unfold natD
    congr 1
    split <;> omega
  · unfold natD
    congr 1
    split <;> omega
def mksL (b : Bk) (l : List Ht) : List Nat := (l.map fun x => (rlI b x.num).ms).flatten
theorem mksL_len (b : Bk) : ∀ l : List Ht, (mksL b l).length = (l.map (own b)).sum
  | [] => rfl
  | x :: l => by
    unfold mksL own
    have := mksL_len b l
    unfold mksL own at this
    rw [List.map_cons, List.flatten_cons, List.length_append, List.map_cons, List.sum_cons, this]
def tyO (b : Bk) (x : Ht) (u : List Nat × Nat) : List Pt := (rlI b x.num).ts.map fun p => ⟨min ((spo b x u).getD p.one 0) ((spo b x u).getD p.other 0), max ((spo b x u).getD p.one 0) ((spo b x u).getD p.other 0), p.strand⟩
def tysL (b : Bk) (l : List (Ht × (List Nat × Nat))) : List Pt := (l.map fun q => tyO b q.1 q.2).flatten
/-- the law's web -/
def webD (b : Bk) (t : Ht) (nm : Str) : D := .tup [natD (arF b nm), .str (stS (mksL b t.pre)), .tup ((srt (tysL b (t.pre.zip (lay b t (v0 b nm))))).map Pt.d)]
theorem laid_w (A : BkA b) (w : WfH b nm t) (hz : t.pre.length ≤ 1000) (hn : b.nms.length ≤ 1000) (h : ∀ (G : Sto) (c : Nat), (S ++ G)[c]? = some (.lst [webD b t nm, .tup ((SPL b t (v0 b nm)).map nsD)]) → Q (.ref c) (S ++ G)) : W (orc T (k + 3) n__law_laid [b.d, t.d] S) Q := by
  refine orc_w (ρ := [some b.d, some t.d, none, none, none, none, none, none, none, none, none, none, none, none, none, none, none, none, none]) rfl rfl rfl ?_
  show W (evSs _ b__law_laid _ _) _
  simp only [b__law_laid]
  have t3 := A.a3 nm
  obtain ⟨n0, hd0, ks0, et, q1, q2, q3⟩ := w.top
  have hn0 := (List.getElem?_eq_some_iff.mp q1).1
  have e0 : b.rls[n0] = rlI b n0 := (List.getElem?_eq_some_iff.mp q1).2
  have krl0 := at_rl hn0
  rw [e0] at krl0
  have kd0 : ∃ rest, t.d = .tup (natD n0 :: rest) := ⟨_, by rw [et]; exact ht_d _ _ _⟩
  obtain ⟨rest, kd0⟩ := kd0
  have kn0 : atI (natD n0 :: rest) 0 = some (natD n0) := at_nat (k := 0) _ (by simp)
  mul_fits
  refine hlflat_w (by omega) (wf_klen A w) fun G a c cc ka hB kcc => ?_
  refine w_may (show bindN (.tup [2, 3]) (.ref cc) _ _ = some [some b.d, some t.d, some (.ref a), some (.ref c), none, none, none, none, none, none, none, none, none, none, none, none, none, none, none] from by simp only [bindN, sq_lst kcc, Option.bind_some]; rfl) ?_
  obtain ⟨rs, kb, hrl, hbl⟩ := hB
  rw [hg_len] at hrl
  generalize hX : S ++ G = X at *
  mul_fits
  rw [kd0]
  mul_fits
  refine larity_w (by omega) ?_
  rw [q2, ← kd0]
  have bda : RgOk 0 ((arF b nm : Nat) : Int) := by unfold RgOk; omega
  mul_fits
  refine ⟨by rw [List.length_map]; exact le_size (by omega), ?_⟩
  refine loopQ_w (fun ds r Sx => ∃ n : Nat, ds = (t.pre.drop n).map Ht.d ∧ n ≤ t.pre.length ∧ Sx = X ++ List.replicate n (Ob.lst ((List.range (arF b nm)).map natD)) ∧ r = (List.range n).map fun j => D.ref (X.length + j)) ?_ ?_ _ _ ⟨0, by simp, by omega, by simp, rfl⟩
  · rintro d ds r Sx ⟨n, h1, h2, rfl, rfl⟩
    refine ⟨get_pre ka, ?_⟩
    have hn : n < t.pre.length := by
      refine Nat.lt_of_not_le fun z => ?_
      rw [List.drop_of_length_le z] at h1
      simp at h1
    mul_fits
    rw [rgD0]
    refine ⟨n + 1, ?_, by omega, ?_, ?_⟩
    · rw [List.drop_eq_getElem_cons hn, List.map_cons, List.cons.injEq] at h1
      exact h1.2
    · rw [List.append_assoc, List.replicate_succ']
    · rw [List.range_succ, List.map_append, List.length_append, List.length_replicate]
      rfl
  rintro r Sx ⟨n, h1, h2, rfl, rfl⟩
  refine ⟨get_pre ka, ?_⟩
  have hn : n = t.pre.length := by
    refine Nat.le_antisymm h2 (Nat.le_of_not_lt fun z => ?_)
    have := congrArg List.length h1
    simp at this
    omega
  subst hn
  generalize hB2 : X ++ List.replicate t.pre.length (Ob.lst ((List.range (arF b nm)).map natD)) = B2
  have kB : ∀ {i : Nat} {o : Ob}, X[i]? = some o → B2[i]? = some o := fun h => by rw [← hB2]; exact get_pre h
  have kaB := kB ka
  have kbB := kB kb
  have hIm0 : ∀ (p r : Nat), ((List.range t.pre.length).map fun j => X.length + j)[p]? = some r → Im B2 [] r (.lst ((v0 b nm).1.map natD)) := by
    intro p r hr
    rw [List.getElem?_map] at hr
    obtain ⟨q, hq, rfl⟩ := Option.map_eq_some_iff.mp hr
    have := List.getElem?_eq_some_iff.mp hq
    have hp : p < t.pre.length := by simpa using this.1
    have hqp : q = p := by simpa using this.2.symm
    subst hqp
    left
    rw [← hB2, get_off, List.getElem?_replicate, if_pos hp]
    rfl
  mul_fits
  have hst : B2 ++ [Ob.lst ((List.range t.pre.length).map fun j => D.ref (X.length + j))] ++ [Ob.lst []] ++ [Ob.lst []] = B2 ++ [Ob.lst (((List.range t.pre.length).map fun j => X.length + j).map D.ref), Ob.lst ((tysL b ((t.pre.zip (lay b t (v0 b nm))).take 0)).map Pt.d), Ob.lst (((SPL b t (v0 b nm)).take 0).map nsD)] ++ [] := by
    rw [List.map_map]
    simp [tysL, Function.comp_def]
  rw [hst, show (B2 ++ [Ob.lst ((List.range t.pre.length).map fun j => D.ref (X.length + j))]).length = B2.length + 1 from by simp, show (B2 ++ [Ob.lst ((List.range t.pre.length).map fun j => D.ref (X.length + j))] ++ [Ob.lst []]).length = B2.length + 2 from by simp]
  have gB : ∀ {i : Nat} {o : Ob} (l g : Sto), B2[i]? = some o → (B2 ++ l ++ g)[i]? = some o := fun l g h => get_pre (get_pre h)
  have ka1 := gB [Ob.lst (((List.range t.pre.length).map fun j => X.length + j).map D.ref), Ob.lst ((tysL b ((t.pre.zip (lay b t (v0 b nm))).take 0)).map Pt.d), Ob.lst (((SPL b t (v0 b nm)).take 0).map nsD)] [] kaB
  have bd : bd62 0 ∧ bd62 (t.pre.length : Int) := by unfold bd62; omega
  mul_fits
  rw [List.length_map]
  mul_fits
  rw [rgD_0]
  refine loopS_e natD (fun r ρ S' => ∃ (i m : Nat) (L : List (List Nat × Nat)) (J : List Nat) (g : Sto) (o10 o11 o12 o13 o14 o15 o16 : Option D), i + m = t.pre.length ∧ r = List.range' i m ∧ S' = B2 ++ [Ob.lst (J.map D.ref), Ob.lst ((tysL b ((t.pre.zip (lay b t (v0 b nm))).take i)).map Pt.d), Ob.lst (((SPL b t (v0 b nm)).take i).map nsD)] ++ g ∧ ρ = [some b.d, some t.d, some (.ref a), some (.ref c), some (natD (arF b nm)), some (.ref B2.length), some (.str (stS (mksL b (t.pre.take i)))), some (.ref (B2.length + 1)), some (.ref (B2.length + 2)), some (natD (arF b nm + ((t.pre.take i).map (own b)).sum)), o10, o11, o12, o13, o14, o15, o16, none, none] ∧ Agr t.g L (lay b t (v0 b nm)) i 0 ∧ J.length = t.pre.length ∧ ∀ (p r : Nat) (u : List Nat × Nat), J[p]? = some r → L[p]? = some u → Im B2 g r (.lst (u.1.map natD))) ?_ ?_ _ _ _ ⟨0, t.pre.length, t.pre.map fun _ => v0 b nm, (List.range t.pre.length).map fun j => X.length + j, [], none, none, none, none, none, none, none, by omega, rfl, rfl, by simp [mksL]; rfl, .start (by rw [List.length_map, lay_len]) (by
    rw [show (lay b t (v0 b nm))[0]? = some (v0 b nm) from by unfold lay; rw [hdn_eq]; rfl]
    have : 0 < t.pre.length := hpre_pos t
    simp [this]), by simp, fun p r u h1 h2 => by
      have : u = v0 b nm := by
        rw [List.getElem?_map] at h2
        obtain ⟨_, _, e⟩ := Option.map_eq_some_iff.mp h2
        exact e.symm
      rw [this]
      exact hIm0 p r h1⟩
  · rintro i r ρ S' ⟨i', m, L, J, g, o10, o11, o12, o13, o14, o15, o16, him, hr, rfl, rfl, ag, hJ, hIm⟩
    refine ⟨trivial, ?_⟩
    cases m with
    | zero => exact absurd hr (by simp)
    | succ m =>
    rw [rg'_cons, List.cons.injEq] at hr
    obtain ⟨rfl, rfl⟩ := hr
    have hi : i < t.pre.length := by omega
    have hx : t.pre[i]? = some t.pre[i] := List.getElem?_eq_getElem hi
    have ki : atI (t.pre.map Ht.d) (i : Int) = some (t.pre[i]).d := at_map _ _ _ hi
    have hxm := List.getElem_mem hi
    generalize t.pre[i] = x at hx ki hxm
    obtain ⟨u, hu⟩ := lay_get b t (v0 b nm) hi
    have lo := lay_ok A (v0_ok w) i x u hx hu
    have hstart := lay_start b t (v0 b nm) i u hu
    obtain ⟨n, hd, ks, rfl, h1, h2, h3⟩ := lo.spo_len
    have hn := (List.getElem?_eq_some_iff.mp h1).1
    have krl := at_rl hn
    have ern : b.rls[n] = rlI b n := (List.getElem?_eq_some_iff.mp h1).2
    rw [ern] at krl
    have hm6 := A.m6 _ (List.mem_of_getElem? h1)
    have hs3 := A.s3 _ (List.mem_of_getElem? h1)
    have ht60 := A.t60 _ (List.mem_of_getElem? h1)
    have har3 := A.a3 (rlI b n).nm
    have hxg := hg_getI hx
    obtain ⟨xr, kr, kx⟩ := hbl i _ hxg
    rw [ht_d] at ki
    have kn : atI (natD n :: (hd ++ [D.tup (ks.map Ht.d)])) 0 = some (natD n) := at_nat (k := 0) _ (by simp)
    have klen : (stS (rlI b n).ms).length ≤ sizeLine := by rw [st_length]; exact le_size (by omega)
    have hLi : L[i]? = some u := by rw [← hu]; exact ag.self (by rw [hg_len]; exact hi)
    have hJi : i < J.length := by rw [hJ]; exact hi
    have eJ : J[i]? = some J[i] := List.getElem?_eq_getElem hJi
    have kJ : atI (J.map D.ref) (i : Int) = some (.ref J[i]) := at_map _ _ _ hJi
    generalize J[i] = ji at eJ kJ
    have imi := hIm i ji u eJ hLi
    have espo : spo b (.nd n hd ks) u = u.1 ++ List.range' u.2 (rlI b n).ms.length := rfl
    have hspl : (spo b (.nd n hd ks) u).length ≤ 9 := by rw [h3]; omega
    have hul : u.1.length ≤ 9 := by
      have := hspl
      rw [espo, List.length_append] at this
      omega
    have hown : ∀ l : List Ht, l.length ≤ 1000 → (∀ y ∈ l, y ∈ t.pre) → (l.map (own b)).sum ≤ 6000 := by
      intro l hl hm
      have := sum_bd (f := own b) (c := 6) (l := l) fun y hy => by
        obtain ⟨nm', w'⟩ := w.node y (hm y hy)
        obtain ⟨n', _, _, rfl, q, _⟩ := w'.top
        exact A.m6 _ (List.mem_of_getElem? q)
      omega
    have hown1 := hown (t.pre.take i) (by rw [List.length_take]; omega) fun y hy => List.mem_of_mem_take hy
    generalize hT : tysL b ((t.pre.zip (lay b t (v0 b nm))).take i) = Ti
    have hTl : Ti.length ≤ 60 * i := by
      rw [← hT]
      have : ∀ l : List (Ht × (List Nat × Nat)), (∀ q ∈ l, q.1 ∈ t.pre) → (tysL b l).length ≤ 60 * l.length := by
        intro l
        induction l with
        | nil => intro _; simp [tysL]
        | cons q l ih =>
          intro hq
          have := ih fun z hz => hq z (by simp [hz])
          unfold tysL at this ⊢
          rw [List.map_cons, List.flatten_cons, List.length_append, List.length_cons]
          obtain ⟨nm', w'⟩ := w.node q.1 (hq q (by simp))
          obtain ⟨n', _, _, e, q', _⟩ := w'.top
          have h60 := A.t60 _ (List.mem_of_getElem? q')
          have : (tyO b q.1 q.2).length ≤ 60 := by
            unfold tyO
            rw [List.length_map, e]
            exact h60
          omega
      refine Nat.le_trans (this _ fun q hq => (List.of_mem_zip (List.mem_of_mem_take hq)).1) ?_
      rw [List.length_take]
      omega
    have eT : tysL b ((t.pre.zip (lay b t (v0 b nm))).take (i + 1)) = Ti ++ tyO b (.nd n hd ks) u := by
      rw [← hT, List.take_succ]
      have : (t.pre.zip (lay b t (v0 b nm)))[i]? = some (.nd n hd ks, u) := by
        rw [List.getElem?_zip_eq_some]
        exact ⟨hx, hu⟩
      rw [this]
      unfold tysL
      simp
    have emk : mksL b (t.pre.take (i + 1)) = mksL b (t.pre.take i) ++ (rlI b n).ms := by
      rw [List.take_succ, hx]
      unfold mksL
      simp [Ht.num]
    have eow : ((t.pre.take (i + 1)).map (own b)).sum = ((t.pre.take i).map (own b)).sum + (rlI b n).ms.length := by
      rw [List.take_succ, hx]
      simp [own, Ht.num]
    have hmkl : (stS (mksL b (t.pre.take i))).length ≤ 6000 := by rw [st_length, mksL_len]; exact hown1
    have el3 : ∀ (o p q : Ob), [o, p, q].length = 3 := fun _ _ _ => rfl
    have kj0 : ∀ (l g : Sto), 0 < l.length → (B2 ++ l ++ g)[B2.length]? = l[0]? := fun l g h => get_m3 B2 l g 0 h
    have kJl : (B2 ++ [Ob.lst (J.map D.ref), Ob.lst (Ti.map Pt.d), Ob.lst (((SPL b t (v0 b nm)).take i).map nsD)] ++ g)[B2.length]? = some (.lst (J.map D.ref)) := kj0 _ _ (by simp)
    have kim := imi.get (l3 := [Ob.lst (J.map D.ref), Ob.lst (Ti.map Pt.d), Ob.lst (((SPL b t (v0 b nm)).take i).map nsD)]) rfl
    have ka2 := gB [Ob.lst (J.map D.ref), Ob.lst (Ti.map Pt.d), Ob.lst (((SPL b t (v0 b nm)).take i).map nsD)] g kaB
    have rgo : RgOk ((arF b nm + ((t.pre.take i).map (own b)).sum : Nat) : Int) (((arF b nm + ((t.pre.take i).map (own b)).sum : Nat) : Int) + (((rlI b n).ms.length : Nat) : Int)) := by unfold RgOk; omega
    simp only [b__law_laid_1]
    mul_fits
    rw [st_length]
    mul_fits
    have erg : rgD ((arF b nm + ((t.pre.take i).map (own b)).sum : Nat) : Int) (((arF b nm + ((t.pre.take i).map (own b)).sum : Nat) : Int) + (((rlI b n).ms.length : Nat) : Int)) = (List.range' u.2 (rlI b n).ms.length).map natD := by
      rw [hstart, ← Int.natCast_add, rgD_nat _ _ (by omega)]
      congr 2
      show _ = _
      simp [v0]
    rw [erg]
    have esz : (u.1.map natD).length + ((List.range' u.2 (rlI b n).ms.length).map natD).length ≤ sizeLine := by simp; exact le_size (by omega)
    have ecat : u.1.map natD ++ (List.range' u.2 (rlI b n).ms.length).map natD = (spo b (.nd n hd ks) u).map natD := by
      rw [espo, List.map_append]
    refine w_ask esz ?_
    rw [ecat]
    have eg : B2 ++ [Ob.lst (J.map D.ref), Ob.lst (Ti.map Pt.d), Ob.lst (((SPL b t (v0 b nm)).take i).map nsD)] ++ g ++ [Ob.lst ((spo b (.nd n hd ks) u).map natD)] = B2 ++ [Ob.lst (J.map D.ref), Ob.lst (Ti.map Pt.d), Ob.lst (((SPL b t (v0 b nm)).take i).map nsD)] ++ (g ++ [Ob.lst ((spo b (.nd n hd ks) u).map natD)]) := List.append_assoc _ _ _
    have er : (B2 ++ [Ob.lst (J.map D.ref), Ob.lst (Ti.map Pt.d), Ob.lst (((SPL b t (v0 b nm)).take i).map nsD)] ++ g).length = B2.length + 3 + g.length := by simp; omega
    have imo : Im B2 (g ++ [Ob.lst ((spo b (.nd n hd ks) u).map natD)]) (B2.length + 3 + g.length) (.lst ((spo b (.nd n hd ks) u).map natD)) := Im.new
    have hIm' : ∀ (p r : Nat) (u : List Nat × Nat), J[p]? = some r → L[p]? = some u → Im B2 (g ++ [Ob.lst ((spo b (.nd n hd ks) u).map natD)]) r (.lst (u.1.map natD)) := fun p r u h1 h2 => (hIm p r u h1 h2).app
    have hIm' : ∀ (p r : Nat) (u' : List Nat × Nat), J[p]? = some r → L[p]? = some u' → Im B2 (g ++ [Ob.lst ((spo b (.nd n hd ks) u).map natD)]) r (.lst (u'.1.map natD)) := fun p r u h1 h2 => (hIm p r u h1 h2).app
    mul_fits
    rw [eg, er]
    generalize g ++ [Ob.lst ((spo b (.nd n hd ks) u).map natD)] = g1 at imo hIm' ⊢
    generalize hro : B2.length + 3 + g.length = ro at imo ⊢
    have kown : ∀ l3 : Sto, l3.length = 3 → (B2 ++ l3 ++ g1)[ro]? = some (.lst ((spo b (.nd n hd ks) u).map natD)) := fun l3 hl => imo.get hl
    mul_fits
    rw [st_length]
    mul_fits
    refine v_addS (by rw [st_length] at hmkl ⊢; rw [st_length]; exact le_size (by omega)) ?_
    rw [st_append, ← emk]
    have kown1 := kown [Ob.lst (J.map D.ref), Ob.lst (Ti.map Pt.d), Ob.lst (((SPL b t (v0 b nm)).take i).map nsD)] rfl
    have kP1 : (B2 ++ [Ob.lst (J.map D.ref), Ob.lst (Ti.map Pt.d), Ob.lst (((SPL b t (v0 b nm)).take i).map nsD)] ++ g1)[B2.length + 2]? = some (.lst (((SPL b t (v0 b nm)).take i).map nsD)) := get_m3 B2 _ g1 2 (by simp)
    mul_fits
    refine v_app kP1 (Nat.lt_of_lt_of_le (m := 1001) (by rw [List.length_map, List.length_take]; omega) (le_size (by decide))) ?_
    rw [set_m3 B2 _ g1 2 _ (by simp)]
    have hnx : ([Ob.lst (J.map D.ref), Ob.lst (Ti.map Pt.d), Ob.lst (((SPL b t (v0 b nm)).take i).map nsD)].set 2 (Ob.lst (((SPL b t (v0 b nm)).take i).map nsD ++ [nsD (spo b (.nd n hd ks) u)]))) = [Ob.lst (J.map D.ref), Ob.lst (Ti.map Pt.d), Ob.lst (((SPL b t (v0 b nm)).take (i + 1)).map nsD)] := by
      rw [List.take_succ, spl_get hx hu, List.map_append]
      rfl
    rw [hnx]
    have eaf : ((arF b nm + ((t.pre.take i).map (own b)).sum : Nat) : Int) + (((rlI b n).ms.length : Nat) : Int) = ((arF b nm + ((t.pre.take (i + 1)).map (own b)).sum : Nat) : Int) := by
      rw [eow]
      omega
    rw [eaf]
    mul_fits
    -- the ties of the piece
    refine loopS_e Pt.d (fun r ρ S' => ∃ (q : List Pt) (o13 o14 o15 : Option D), q ++ r = (rlI b n).ts ∧ S' = B2 ++ [Ob.lst (J.map D.ref), Ob.lst ((Ti ++ q.map fun p => (⟨min ((spo b (.nd n hd ks) u).getD p.one 0) ((spo b (.nd n hd ks) u).getD p.other 0), max ((spo b (.nd n hd ks) u).getD p.one 0) ((spo b (.nd n hd ks) u).getD p.other 0), p.strand⟩ : Pt)).map Pt.d), Ob.lst (((SPL b t (v0 b nm)).take (i + 1)).map nsD)] ++ g1 ∧ ρ = [some b.d, some t.d, some (.ref a), some (.ref c), some (natD (arF b nm)), some (.ref B2.length), some (.str (stS (mksL b (t.pre.take (i + 1))))), some (.ref (B2.length + 1)), some (.ref (B2.length + 2)), some (natD (arF b nm + ((t.pre.take (i + 1)).map (own b)).sum)), some (natD i), some (rlI b n).d, some (.ref ro), o13, o14, o15, o16, none, none]) ?_ ?_ _ _ _ ⟨[], o13, o14, o15, rfl, by simp, rfl⟩
    · rintro p r ρ S' ⟨q, o13, o14, o15, hq, rfl, rfl⟩
      refine ⟨trivial, ?_⟩
      have hp : p ∈ (rlI b n).ts := by rw [← hq]; simp
      have pin := (A.ar n _ h1).2 p hp
      have hql : q.length ≤ 60 := by
        rw [← hq, List.length_append] at ht60
        omega
      have hone : p.one < (spo b (.nd n hd ks) u).length := by rw [h3]; exact pin.one
      have hoth : p.other < (spo b (.nd n hd ks) u).length := by rw [h3]; exact pin.other
      have k1 : atI ((spo b (.nd n hd ks) u).map natD) (p.one : Int) = some (natD ((spo b (.nd n hd ks) u).getD p.one 0)) := by
        rw [at_map _ _ _ hone]
        simp [List.getD, hone]
      have k2 : atI ((spo b (.nd n hd ks) u).map natD) (p.other : Int) = some (natD ((spo b (.nd n hd ks) u).getD p.other 0)) := by
        rw [at_map _ _ _ hoth]
        simp [List.getD, hoth]
      have ko := kown [Ob.lst (J.map D.ref), Ob.lst ((Ti ++ q.map fun p => (⟨min ((spo b (.nd n hd ks) u).getD p.one 0) ((spo b (.nd n hd ks) u).getD p.other 0), max ((spo b (.nd n hd ks) u).getD p.one 0) ((spo b (.nd n hd ks) u).getD p.other 0), p.strand⟩ : Pt)).map Pt.d), Ob.lst (((SPL b t (v0 b nm)).take (i + 1)).map nsD)] rfl
      have kT : (B2 ++ [Ob.lst (J.map D.ref), Ob.lst ((Ti ++ q.map fun p => (⟨min ((spo b (.nd n hd ks) u).getD p.one 0) ((spo b (.nd n hd ks) u).getD p.other 0), max ((spo b (.nd n hd ks) u).getD p.one 0) ((spo b (.nd n hd ks) u).getD p.other 0), p.strand⟩ : Pt)).map Pt.d), Ob.lst (((SPL b t (v0 b nm)).take (i + 1)).map nsD)] ++ g1)[B2.length + 1]? = some (.lst ((Ti ++ q.map fun p => (⟨min ((spo b (.nd n hd ks) u).getD p.one 0) ((spo b (.nd n hd ks) u).getD p.other 0), max ((spo b (.nd n hd ks) u).getD p.one 0) ((spo b (.nd n hd ks) u).getD p.other 0), p.strand⟩ : Pt)).map Pt.d)) := get_m3 B2 _ g1 1 (by simp)
      simp only [b__law_laid_2]
      mul_fits
      rw [(mm_pt _ _).1, (mm_pt _ _).2]
      refine v_app kT (Nat.lt_of_lt_of_le (m := 70000) (by rw [List.length_map, List.length_append, List.length_map]; omega) (le_size (by decide))) ?_
      rw [set_m3 B2 _ g1 1 _ (by simp)]
      mul_fits
      exact ⟨_, .inl rfl, q ++ [p], _, _, _, by rw [← hq]; simp, by simp, rfl⟩
    rintro ρ S' ⟨q, o13, o14, o15, hq, rfl, rfl⟩
    refine ⟨trivial, ?_⟩
    rw [List.append_nil] at hq
    subst hq
    have eT2 : (Ti ++ (rlI b n).ts.map fun p => (⟨min ((spo b (.nd n hd ks) u).getD p.one 0) ((spo b (.nd n hd ks) u).getD p.other 0), max ((spo b (.nd n hd ks) u).getD p.one 0) ((spo b (.nd n hd ks) u).getD p.other 0), p.strand⟩ : Pt)) = tysL b ((t.pre.zip (lay b t (v0 b nm))).take (i + 1)) := by
      rw [eT]
      rfl
    rw [eT2]
    generalize hT2 : tysL b ((t.pre.zip (lay b t (v0 b nm))).take (i + 1)) = T2
    generalize hP2 : ((SPL b t (v0 b nm)).take (i + 1)).map nsD = P2
    mul_fits
    simp only [b__law_laid_3]
    mul_fits
    rw [List.length_map]
    have bds : bd62 0 ∧ bd62 (((rlI b n).sl.length : Nat) : Int) := by unfold bd62; omega
    mul_fits
    rw [rgD_0]
    refine loopS_e natD (fun r ρ S' => ∃ (j m : Nat) (L : List (List Nat × Nat)) (J : List Nat) (g2 : Sto) (o16 : Option D), j + m = ks.length ∧ r = List.range' j m ∧ S' = B2 ++ [Ob.lst (J.map D.ref), Ob.lst (T2.map Pt.d), Ob.lst P2] ++ (g1 ++ g2) ∧ ρ = [some b.d, some t.d, some (.ref a), some (.ref c), some (natD (arF b nm)), some (.ref B2.length), some (.str (stS (mksL b (t.pre.take (i + 1))))), some (.ref (B2.length + 1)), some (.ref (B2.length + 2)), some (natD (arF b nm + ((t.pre.take (i + 1)).map (own b)).sum)), some (natD i), some (rlI b n).d, some (.ref ro), o13, o14, o15, o16, none, none] ∧ Agr t.g L (lay b t (v0 b nm)) i j ∧ J.length = t.pre.length ∧ ∀ (p r : Nat) (u' : List Nat × Nat), J[p]? = some r → L[p]? = some u' → Im B2 (g1 ++ g2) r (.lst (u'.1.map natD))) ?_ ?_ _ _ _ ⟨0, (rlI b n).sl.length, L, J, [], o16, by omega, rfl, by simp, rfl, ag, hJ, by simpa using hIm'⟩
    · rintro j r ρ S' ⟨j', m', L, J, g2, o16, hjm, hr, rfl, rfl, ag, hJ, hIm⟩
      refine ⟨trivial, ?_⟩
      cases m' with
      | zero => exact absurd hr (by simp)
      | succ m' =>
      rw [rg'_cons, List.cons.injEq] at hr
      obtain ⟨rfl, rfl⟩ := hr
      have hj : j < ks.length := by omega
      have hjg : j < (Ht.nd n hd ks).g.kids.length := by rw [hg_kids, List.length_map]; exact hj
      have hlt := gpre_lt hxg hjg
      rw [hg_len] at hlt
      have hjs : j < (rlI b n).sl.length := by omega
      have ksl : atI ((rlI b n).sl.map Sl.d) (j : Int) = some ((rlI b n).sl[j]).d := at_map _ _ _ hjs
      have esl : plI b (.nd n hd ks) j = ((rlI b n).sl[j]).pl := by
        unfold plI
        rw [show (Ht.nd n hd ks).num = n from rfl, List.getD_eq_getElem?_getD, List.getElem?_eq_getElem hjs]
        rfl
      have hsl := (A.ar n _ h1).1 _ (List.getElem_mem hjs)
      have hpl3 : ((rlI b n).sl[j]).pl.length ≤ 3 := by rw [hsl.1]; exact A.a3 _
      have kst := at_starts (i := i) hjg
      have ko : (B2 ++ [Ob.lst (J.map D.ref), Ob.lst (T2.map Pt.d), Ob.lst P2] ++ (g1 ++ g2))[ro]? = some (.lst ((spo b (.nd n hd ks) u).map natD)) := (imo.app (g2 := g2)).get rfl
      simp only [b__law_laid_4]
      mul_fits
      refine ⟨by rw [List.length_map]; exact le_size (by omega), ?_⟩
      refine loopQ_m natD (fun q => natD ((spo b (.nd n hd ks) u).getD q 0)) (fun Sy => Sy = B2 ++ [Ob.lst (J.map D.ref), Ob.lst (T2.map Pt.d), Ob.lst P2] ++ (g1 ++ g2)) _ (fun q hq Sy e => ?_) (fun Sy e => ?_) _ rfl
      · subst e
        refine ⟨trivial, ?_⟩
        have hq2 : q < (spo b (.nd n hd ks) u).length := by rw [h3]; exact hsl.2.2 q hq
        have kq : atI ((spo b (.nd n hd ks) u).map natD) (q : Int) = some (natD ((spo b (.nd n hd ks) u).getD q 0)) := by
          rw [at_map _ _ _ hq2]
          simp [List.getD, hq2]
        mul_fits
        exact ⟨rfl, rfl⟩
      subst e
      refine ⟨trivial, ?_⟩
      have e3 : B2 ++ [Ob.lst (J.map D.ref), Ob.lst (T2.map Pt.d), Ob.lst P2] ++ (g1 ++ g2) ++ [Ob.lst (((rlI b n).sl[j]).pl.map fun q => natD ((spo b (.nd n hd ks) u).getD q 0))] = B2 ++ [Ob.lst (J.map D.ref), Ob.lst (T2.map Pt.d), Ob.lst P2] ++ (g1 ++ (g2 ++ [Ob.lst (((rlI b n).sl[j]).pl.map fun q => natD ((spo b (.nd n hd ks) u).getD q 0))])) := by simp
      have e4 : (B2 ++ [Ob.lst (J.map D.ref), Ob.lst (T2.map Pt.d), Ob.lst P2] ++ (g1 ++ g2)).length = B2.length + 3 + (g1 ++ g2).length := by simp; omega
      have imn : Im B2 (g1 ++ (g2 ++ [Ob.lst (((rlI b n).sl[j]).pl.map fun q => natD ((spo b (.nd n hd ks) u).getD q 0))])) (B2.length + 3 + (g1 ++ g2).length) (.lst (((rlI b n).sl[j]).pl.map fun q => natD ((spo b (.nd n hd ks) u).getD q 0))) := by
        rw [← List.append_assoc]
        exact Im.new
      mul_fits
      rw [e3, e4]
      have hImx : ∀ (p r : Nat) (u' : List Nat × Nat), J[p]? = some r → L[p]? = some u' → Im B2 (g1 ++ (g2 ++ [Ob.lst (((rlI b n).sl[j]).pl.map fun q => natD ((spo b (.nd n hd ks) u).getD q 0))])) r (.lst (u'.1.map natD)) := fun p r u' h1 h2 => by
        rw [← List.append_assoc]
        exact (hIm p r u' h1 h2).app
      generalize g2 ++ [Ob.lst (((rlI b n).sl[j]).pl.map fun q => natD ((spo b (.nd n hd ks) u).getD q 0))] = g3 at imn hImx ⊢
      generalize B2.length + 3 + (g1 ++ g2).length = rn at imn ⊢
      have kJ2 : (B2 ++ [Ob.lst (J.map D.ref), Ob.lst (T2.map Pt.d), Ob.lst P2] ++ (g1 ++ g3))[B2.length]? = some (.lst (J.map D.ref)) := kj0 _ _ (by simp)
      have kb2 : (B2 ++ [Ob.lst (J.map D.ref), Ob.lst (T2.map Pt.d), Ob.lst P2] ++ (g1 ++ g3))[c]? = some (.lst (rs.map D.ref)) := gB _ _ kbB
      have kx2 : (B2 ++ [Ob.lst (J.map D.ref), Ob.lst (T2.map Pt.d), Ob.lst P2] ++ (g1 ++ g3))[xr]? = some (.lst ((gstarts (i + 1) (Ht.nd n hd ks).g.kids).map natD)) := gB _ _ (kB kx)
      mul_fits
      refine v_set kJ2 (ix_nat (by rw [List.length_map, hJ]; exact hlt)) ?_
      rw [show (B2 ++ [Ob.lst (J.map D.ref), Ob.lst (T2.map Pt.d), Ob.lst P2] ++ (g1 ++ g3)).set B2.length (Ob.lst ((J.map D.ref).set (i + 1 + goff j (Ht.nd n hd ks).g.kids) (.ref rn))) = B2 ++ [Ob.lst ((J.set (i + 1 + goff j (Ht.nd n hd ks).g.kids) rn).map D.ref), Ob.lst (T2.map Pt.d), Ob.lst P2] ++ (g1 ++ g3) from by
        rw [List.map_set]
        exact set_m3 B2 _ _ 0 _ (by simp)]
      mul_fits
      refine ⟨_, .inl rfl, j + 1, m', L.set (i + 1 + goff j (Ht.nd n hd ks).g.kids) (fL b (.nd n hd ks) u j), J.set (i + 1 + goff j (Ht.nd n hd ks).g.kids) rn, g3, some (natD j), by omega, rfl, rfl, rfl, ag.step hxg (hdn_kid hx hu (k := j) hj), by rw [List.length_set]; exact hJ, fun p r u' hp1 hp2 => ?_⟩
      by_cases e : p = i + 1 + goff j (Ht.nd n hd ks).g.kids
      · subst e
        rw [List.getElem?_set_self (by rw [hJ]; exact hlt)] at hp1
        rw [List.getElem?_set_self (by rw [ag.len, lay_len]; exact hlt)] at hp2
        cases hp1
        cases hp2
        unfold fL
        rw [esl]
        show Im B2 _ rn (.lst ((((rlI b n).sl[j]).pl.map fun a => (spo b (.nd n hd ks) u).getD a 0).map natD))
        rw [List.map_map]
        exact imn
      · rw [List.getElem?_set_ne (fun z => e z.symm)] at hp1 hp2
        exact hImx p r u' hp1 hp2
    · rintro ρ S' ⟨j, m', L, J, g2, o16, hjm, hr, rfl, rfl, ag, hJ, hIm⟩
      refine ⟨trivial, ?_⟩
      cases m' with
      | succ m' => exact absurd hr (by simp [rg'_cons])
      | zero =>
      mul_fits
      exact ⟨_, .inl rfl, i + 1, m, L, J, g1 ++ g2, _, _, _, _, _, _, _, by omega, rfl, by rw [hT2, hP2], rfl, ag.next hxg (by rw [hg_kids, List.length_map]; show j = ks.length; omega), hJ, hIm⟩
  · rintro ρ S' ⟨i, m, L, J, g, o10, o11, o12, o13, o14, o15, o16, him, hr, rfl, rfl, ag, hJ, hIm⟩
    refine ⟨trivial, ?_⟩
    cases m with
    | succ m => exact absurd hr (by simp [rg'_cons])
    | zero =>
    have ei : i = t.pre.length := by omega
    subst ei
    have e1 : (SPL b t (v0 b nm)).take t.pre.length = SPL b t (v0 b nm) := List.take_of_length_le (by rw [spl_len]; omega)
    have e2 : (t.pre.zip (lay b t (v0 b nm))).take t.pre.length = t.pre.zip (lay b t (v0 b nm)) := List.take_of_length_le (by rw [List.length_zip, lay_len]; omega)
    rw [e1, e2, List.take_length]
    have kP : (B2 ++ [Ob.lst (J.map D.ref), Ob.lst ((tysL b (t.pre.zip (lay b t (v0 b nm)))).map Pt.d), Ob.lst ((SPL b t (v0 b nm)).map nsD)] ++ g)[B2.length + 2]? = some (.lst ((SPL b t (v0 b nm)).map nsD)) := get_m3 B2 _ g 2 (by simp)
    have kT : (B2 ++ [Ob.lst (J.map D.ref), Ob.lst ((tysL b (t.pre.zip (lay b t (v0 b nm)))).map Pt.d), Ob.lst ((SPL b t (v0 b nm)).map nsD)] ++ g)[B2.length + 1]? = some (.lst ((tysL b (t.pre.zip (lay b t (v0 b nm)))).map Pt.d)) := get_m3 B2 _ g 1 (by simp)
    mul_fits
    simp only [b__law_laid_5]
    mul_fits
    refine sort_pts ?_
    mul_fits
    rw [gc_out (by simp only [below, List.length_append, ← hB2, ← hX]; omega)]
    refine w_ok ?_
    have hB3 : B2 = S ++ (G ++ List.replicate t.pre.length (Ob.lst ((List.range (arF b nm)).map natD))) := by
      rw [← hB2, ← hX, List.append_assoc]
    have ke := get_end (B2 ++ [Ob.lst (J.map D.ref), Ob.lst ((tysL b (t.pre.zip (lay b t (v0 b nm)))).map Pt.d), Ob.lst ((SPL b t (v0 b nm)).map nsD)] ++ g) (Ob.lst [webD b t nm, .tup ((SPL b t (v0 b nm)).map nsD)])
    generalize hn9 : (B2 ++ [Ob.lst (J.map D.ref), Ob.lst ((tysL b (t.pre.zip (lay b t (v0 b nm)))).map Pt.d), Ob.lst ((SPL b t (v0 b nm)).map nsD)] ++ g).length = n9 at ke ⊢
    have es : B2 ++ [Ob.lst (J.map D.ref), Ob.lst ((tysL b (t.pre.zip (lay b t (v0 b nm)))).map Pt.d), Ob.lst ((SPL b t (v0 b nm)).map nsD)] ++ g ++ [Ob.lst [webD b t nm, .tup ((SPL b t (v0 b nm)).map nsD)]] = S ++ (G ++ List.replicate t.pre.length (Ob.lst ((List.range (arF b nm)).map natD)) ++ [Ob.lst (J.map D.ref), Ob.lst ((tysL b (t.pre.zip (lay b t (v0 b nm)))).map Pt.d), Ob.lst ((SPL b t (v0 b nm)).map nsD)] ++ g ++ [Ob.lst [webD b t nm, .tup ((SPL b t (v0 b nm)).map nsD)]]) := by
      rw [hB3]
      simp only [List.append_assoc]
    have h := h _ n9 (by rw [← es]; exact ke)
    rw [← es] at h
    exact h
end
mutual
def dressT (b : Bk) (τ : Nat → Nat) : Ht → (List Nat × Nat) → Ht
  | .nd n hd ks, u => .nd n [nsD ((spo b (.nd n hd ks) u).map τ)] (dressTs b τ ks (fL b (.nd n hd ks) u))
  | .hole, _ => .hole
def dressTs (b : Bk) (τ : Nat → Nat) : List Ht → (Nat → List Nat × Nat) → List Ht
  | [], _ => []
  | t :: ts, g => dressT b τ t (g 0) :: dressTs b τ ts fun k => g (k + 1)
end
theorem dressTs_get (b : Bk) (τ : Nat → Nat) : ∀ (ks : List Ht) (g : Nat → List Nat × Nat) (k : Nat), (dressTs b τ ks g)[k]? = (ks[k]?).map fun y => dressT b τ y (g k)
  | [], g, k => by rw [dressTs]; rfl
  | t :: ts, g, 0 => by rw [dressTs]; rfl
  | t :: ts, g, k + 1 => by
    rw [dressTs, List.getElem?_cons_succ, List.getElem?_cons_succ]
    exact dressTs_get b τ ts _ k
theorem dressTs_len (b : Bk) (τ : Nat → Nat) : ∀ (ks : List Ht) (g : Nat → List Nat × Nat), (dressTs b τ ks g).length = ks.length
  | [], g => by rw [dressTs]
  | t :: ts, g => by rw [dressTs, List.length_cons, List.length_cons, dressTs_len]
def drL (b : Bk) (τ : Nat → Nat) (t : Ht) (v : List Nat × Nat) : List Ht := List.zipWith (dressT b τ) t.pre (lay b t v)
theorem drL_len (b : Bk) (τ : Nat → Nat) (t : Ht) (v : List Nat × Nat) : (drL b τ t v).length = t.pre.length := by
  unfold drL
  rw [List.length_zipWith, lay_len, Nat.min_self]
theorem drL_get {b : Bk} {τ : Nat → Nat} {t : Ht} {v : List Nat × Nat} {i : Nat} {x : Ht} {u : List Nat × Nat} (h1 : t.pre[i]? = some x) (h2 : (lay b t v)[i]? = some u) : (drL b τ t v)[i]? = some (dressT b τ x u) := by
  unfold drL
  rw [List.getElem?_zipWith, h1, h2]
mutual
theorem dress_pre (b : Bk) (τ : Nat → Nat) : ∀ (t : Ht) (v : List Nat × Nat), (dressT b τ t v).pre = drL b τ t v
  | .nd n hd ks, v => by
    have := dress_pres b τ ks (fL b (.nd n hd ks) v)
    unfold drL lay
    rw [hdn_eq, hpre_eq (.nd n hd ks), List.zipWith_cons_cons, hpre_eq, dressT]
    congr 1
  | .hole, v => by
    unfold drL lay
    rw [dressT, hpre_eq, hdn_eq]
    rfl
theorem dress_pres (b : Bk) (τ : Nat → Nat) : ∀ (ts : List Ht) (g : Nat → List Nat × Nat), hpres (dressTs b τ ts g) = List.zipWith (dressT b τ) (hpres ts) (hdns (fL b) ts g)
  | [], g => by rw [dressTs]; rfl
  | t :: ts, g => by
    have h1 := dress_pre b τ t (g 0)
    have h2 := dress_pres b τ ts fun k => g (k + 1)
    rw [dressTs, hpres, hpres, hdns, h1, h2, List.zipWith_append (by rw [hdn_len])]
    rfl
end
section
variable {k : Nat} {S : Sto} {Q : D → Sto → Prop} {b : Bk} {t : Ht} {nm : Str} {τs : List Nat}
abbrev tauF (τs : List Nat) : Nat → Nat := fun i => τs.getD i 0
theorem kids_dr {x : Ht} {i : Nat} {A : List D} {v u : List Nat × Nat} {d : D} {m : Nat} (hx : t.pre[i]? = some x) (hu : (lay b t v)[i]? = some u) (hm : m = i + 1) (ag : AgU A ((drL b (tauF τs) t v).map Ht.d) m) : ((gstarts (i + 1) x.g.kids).map fun p => A.getD p d) = (dressTs b (tauF τs) x.kids (fL b x u)).map Ht.d := by
  subst hm
  refine List.ext_getElem? fun j => ?_
  rw [List.getElem?_map, List.getElem?_map, dressTs_get]
  by_cases h : j < x.kids.length
  · rw [gstarts_get _ _ _ (by rw [hg_kids, List.length_map]; exact h), List.getElem?_eq_getElem h]
    have h1 := hpre_kidG hx (List.getElem?_eq_getElem h)
    have h2 := hdn_kid hx hu h
    simp only [Option.map_some]
    rw [List.getD_eq_getElem?_getD, ag.at_ _ (by omega), List.getElem?_map, drL_get h1 h2]
    rfl
  · rw [List.getElem?_eq_none (by rw [gstarts_len, hg_kids, List.length_map]; omega), List.getElem?_eq_none (by omega)]
    rfl
theorem dr_top : (drL b (tauF τs) t (v0 b nm))[0]? = some (dressT b (tauF τs) t (v0 b nm)) := drL_get (by rw [hpre_eq]; rfl) (by unfold lay; rw [hdn_eq]; rfl)
theorem ldress_w (A : BkA b) (w : WfH b nm t) (hz : t.pre.length ≤ 1000) (hn : b.nms.length ≤ 1000) (hτ : τs.length = arF b nm + cnt_ b t) (hg : Pd (dressT b (tauF τs) t (v0 b nm)).d) (h : Q (dressT b (tauF τs) t (v0 b nm)).d S) : W (orc T (k + 4) n__law_dress [b.d, t.d, nsD τs] S) Q := by
  refine orc_w (ρ := [some b.d, some t.d, some (nsD τs), none, none, none, none, none, none, none, none, none, none]) rfl rfl rfl ?_
  show W (evSs _ b__law_dress _ _) _
  simp only [b__law_dress]
  mul_fits
  refine hlflat_w (by omega) (wf_klen A w) fun G0 a c cc ka hB kcc => ?_
  refine w_may (show bindN (.tup [3, 4]) (.ref cc) _ _ = some [some b.d, some t.d, some (nsD τs), some (.ref a), some (.ref c), none, none, none, none, none, none, none, none] from by simp only [bindN, sq_lst kcc, Option.bind_some]; rfl) ?_
  mul_fits
  refine laid_w A w hz hn fun G1 c1 kc1 => ?_
  have ka := get_pre (R := G1) ka
  have hB := hB.pre (R := G1)
  rw [List.append_assoc] at ka hB kc1 ⊢
  generalize G0 ++ G1 = G at *
  have ki1 : atI [webD b t nm, .tup ((SPL b t (v0 b nm)).map nsD)] 1 = some (.tup ((SPL b t (v0 b nm)).map nsD)) := rfl
  obtain ⟨rs, kb, hrl, hbl⟩ := hB
  rw [hg_len] at hrl
  mul_fits
  refine ⟨by rw [List.length_map]; exact le_size (by omega), ?_⟩
  refine loopQ_m Ht.d (fun _ => D.tup []) (fun Sx => Sx = S ++ G) _ (fun r _ Sx e => ?_) (fun Sx e => ?_) _ rfl
  · subst e
    refine ⟨ka, ?_⟩
    mul_fits
    exact ⟨rfl, rfl⟩
  subst e
  refine ⟨ka, ?_⟩
  have ka' : ∀ o, (S ++ G ++ [o])[a]? = some (.lst (t.pre.map Ht.d)) := fun o => get_pre ka
  have ka1 := ka' (.lst (t.pre.map fun _ => D.tup []))
  have bd : bd62 0 ∧ bd62 (t.pre.length : Int) := by unfold bd62; omega
  mul_fits
  rw [List.length_map]
  mul_fits
  rw [rgD0]
  have step : ∀ (i : Nat) (L : List D) (o9 o8 : Option D) (Q2 : Fl → Sto → Prop), i < t.pre.length → AgU L ((drL b (tauF τs) t (v0 b nm)).map Ht.d) (i + 1) → (∀ L' o8', AgU L' ((drL b (tauF τs) t (v0 b nm)).map Ht.d) i → Q2 (.nx [some b.d, some t.d, some (nsD τs), some (.ref a), some (.ref c), some (.tup ((SPL b t (v0 b nm)).map nsD)), some (.ref (S ++ G).length), o9, some (natD i), o8', none, none, none]) (S ++ G ++ [.lst L'])) →
      W (evSs (orc T (k + 3)) (.cons (.set (.nm 9) (.agg .tuple (.q (.comp [ 11 ] (.nm 11) (.r (.e (.idx (.var 5) (.var 8)))) (.idx (.var 2) (.var 11)))))) (.cons (.sub (.var 6) (.var 8) (.tup (.cons (.idx (.idx (.var 3) (.var 8)) (.lit (.int 0))) (.cons (.var 9) (.cons (.agg .tuple (.q (.comp [ 12 ] (.nm 12) (.r (.e (.idx (.var 4) (.var 8)))) (.idx (.var 6) (.var 12))))) .nil))))) .nil)) [some b.d, some t.d, some (nsD τs), some (.ref a), some (.ref c), some (.tup ((SPL b t (v0 b nm)).map nsD)), some (.ref (S ++ G).length), o9, some (natD i), o8, none, none, none] (S ++ G ++ [.lst L])) Q2 := by
    intro i L o9 o8 Q2 hi ag hQ
    have hx : t.pre[i]? = some t.pre[i] := List.getElem?_eq_getElem hi
    have ki : atI (t.pre.map Ht.d) (i : Int) = some (t.pre[i]).d := at_map _ _ _ hi
    generalize t.pre[i] = x at hx ki
    obtain ⟨u, hu⟩ := lay_get b t (v0 b nm) hi
    have lo := lay_ok A (v0_ok w) i x u hx hu
    have hdr := drL_get (τ := tauF τs) hx hu
    have hsp := spl_get hx hu
    obtain ⟨n, hd, ks, rfl, h1, h2, h3⟩ := lo.spo_len
    have hm6 := A.m6 _ (List.mem_of_getElem? h1)
    have hs3 := A.s3 _ (List.mem_of_getElem? h1)
    have har3 := A.a3 (rlI b n).nm
    obtain ⟨xr, kr, kx⟩ := hbl i _ (hg_getI hx)
    rw [ht_d] at ki
    have kn : atI (natD n :: (hd ++ [D.tup (ks.map Ht.d)])) 0 = some (natD n) := at_nat (k := 0) _ (by simp)
    have ksp : atI ((SPL b t (v0 b nm)).map nsD) (i : Int) = some (nsD (spo b (.nd n hd ks) u)) := by
      have e := List.getElem?_eq_some_iff.mp hsp
      rw [at_map _ _ _ e.1, e.2]
    have ka2 := ka' (.lst L)
    have kb2 : (S ++ G ++ [Ob.lst L])[c]? = some (.lst (rs.map D.ref)) := get_pre kb
    have kx2 : (S ++ G ++ [Ob.lst L])[xr]? = some (.lst ((gstarts (i + 1) (Ht.nd n hd ks).g.kids).map natD)) := get_pre kx
    have kL : (S ++ G ++ [Ob.lst L])[(S ++ G).length]? = some (.lst L) := get_end _ _
    have hLl : L.length = t.pre.length := by rw [ag.len, List.length_map, drL_len]
    mul_fits
    refine ⟨by rw [List.length_map]; exact le_size (by omega), ?_⟩
    refine loopQ_m natD (fun p => natD (tauF τs p)) (fun Sx => Sx = S ++ G ++ [.lst L]) _ (fun p hp Sx e => ?_) (fun Sx e => ?_) _ rfl
    · subst e
      refine ⟨trivial, ?_⟩
      have hpl : p < τs.length := by rw [hτ]; exact lo.spo_lt p hp
      have kp : atI (τs.map natD) (p : Int) = some (natD (tauF τs p)) := by
        rw [at_map _ _ _ hpl]
        simp [tauF, List.getD, hpl]
      mul_fits
      exact ⟨rfl, rfl⟩
    subst e
    refine ⟨trivial, ?_⟩
    mul_fits
    refine ⟨by rw [List.length_map, gstarts_len, hg_kids, List.length_map]; exact le_size (by show ks.length ≤ _; omega), ?_⟩
    refine loopQ_m natD (fun p => L.getD p .non) (fun Sx => Sx = S ++ G ++ [.lst L]) _ (fun p hp Sx e => ?_) (fun Sx e => ?_) _ rfl
    · subst e
      refine ⟨kx2, ?_⟩
      have hpl : p < L.length := by
        obtain ⟨j, hj, rfl⟩ := List.mem_iff_getElem.mp hp
        rw [gstarts_len] at hj
        have e := gstarts_get (i + 1) j _ hj
        rw [List.getElem?_eq_getElem (by rw [gstarts_len]; exact hj)] at e
        rw [Option.some.inj e, hLl, ← hg_len]
        exact gpre_lt (hg_getI hx) hj
      have kp : atI L (p : Int) = some (L.getD p .non) := by
        rw [at_nat _ _ hpl]
        simp [List.getD, hpl]
      mul_fits
      exact ⟨rfl, rfl⟩
    subst e
    refine ⟨kx2, ?_⟩
    rw [kids_dr hx hu rfl ag]
    mul_fits
    refine v_set kL (ix_nat (by rw [hLl]; exact hi)) ?_
    rw [set_end]
    mul_fits
    have e : D.tup [natD n, D.tup ((spo b (.nd n hd ks) u).map fun p => natD (tauF τs p)), D.tup ((dressTs b (tauF τs) (Ht.nd n hd ks).kids (fL b (.nd n hd ks) u)).map Ht.d)] = (dressT b (tauF τs) (.nd n hd ks) u).d := by
      rw [dressT, ht_d]
      simp [nsD, Ht.kids, List.map_map, Function.comp_def]
    rw [e]
    exact hQ _ _ (ag.step (by rw [List.getElem?_map, hdr]; rfl))
  refine loopS_e natD (fun r ρ S' => ∃ (L : List D) (o7 o8 o9 : Option D), r = List.range' (t.pre.length - r.length) r.length ∧ r.length ≤ t.pre.length ∧ S' = S ++ G ++ [.lst L] ∧ ρ = [some b.d, some t.d, some (nsD τs), some (.ref a), some (.ref c), some (.tup ((SPL b t (v0 b nm)).map nsD)), some (.ref (S ++ G).length), o7, o8, o9, none, none, none] ∧ AgU L ((drL b (tauF τs) t (v0 b nm)).map Ht.d) r.length) ?_ ?_ (List.range t.pre.length) _ _ ⟨t.pre.map fun _ => D.tup [], _, _, _, by simp [List.range_eq_range'], by simp, rfl, rfl, by
    have := AgU.start (A := t.pre.map fun _ => D.tup []) (B := (drL b (tauF τs) t (v0 b nm)).map Ht.d) (by rw [List.length_map, List.length_map, drL_len])
    simpa using this⟩
  · rintro i r ρ S' ⟨L, o7, o8, o9, hr, hrl2, rfl, rfl, ag⟩
    refine ⟨trivial, ?_⟩
    rw [List.length_cons] at hr hrl2 ag
    rw [rg'_cons, List.cons.injEq] at hr
    obtain ⟨rfl, hr⟩ := hr
    have ka3 := ka' (.lst L)
    simp only [b__law_dress_1]
    refine w_scons (W_mono (Q := fun fl S1 => fl = .nx [some b.d, some t.d, some (nsD τs), some (.ref a), some (.ref c), some (.tup ((SPL b t (v0 b nm)).map nsD)), some (.ref (S ++ G).length), some (natD (t.pre.length - (r.length + 1))), some (natD r.length), o9, none, none, none] ∧ S1 = S ++ G ++ [.lst L]) ?_ fun fl S1 ⟨e1, e2⟩ => ?_)
    · mul_fits
      rw [List.length_map, show ((t.pre.length : Int) - 1 - ((t.pre.length - (r.length + 1) : Nat) : Int)) = ((r.length : Nat) : Int) from by omega]
      exact ⟨rfl, rfl⟩
    subst e1 e2
    refine w_nx ?_
    refine step r.length L _ _ _ (by omega) ag fun L' o8' ag' => ?_
    refine ⟨_, .inl rfl, L', _, _, _, ?_, by omega, rfl, rfl, ag'⟩
    rw [show t.pre.length - r.length = t.pre.length - (r.length + 1) + 1 from by omega]
    exact hr
  · rintro ρ S' ⟨L, o7, o8, o9, hr, hrl2, rfl, rfl, ag⟩
    refine ⟨trivial, ?_⟩
    have hL := ag.done
    have kL : (S ++ G ++ [Ob.lst L])[(S ++ G).length]? = some (.lst L) := get_end _ _
    have kt : atI L 0 = some (dressT b (tauF τs) t (v0 b nm)).d := by
      have e : L[0]? = some (dressT b (tauF τs) t (v0 b nm)).d := by rw [hL, List.getElem?_map, dr_top]; rfl
      have e2 := List.getElem?_eq_some_iff.mp e
      rw [show (0 : Int) = ((0 : Nat) : Int) from rfl, at_nat _ _ e2.1, e2.2]
    mul_fits
    simp only [b__law_dress_2]
    mul_fits
    rw [List.append_assoc, gc_app (hg.b _)]
    exact w_ok h
end
mutual
def dz (b : Bk) : Ht → List Nat → List Nat → Ht
  | .nd n hd ks, jt, us => .nd n [nsD (jt ++ us.take (rlI b n).ms.length)] (dzs b ks (fun k => ((rlI b n).sl.getD k ⟨"", []⟩).pl.map fun a => (jt ++ us.take (rlI b n).ms.length).getD a 0) (us.drop (rlI b n).ms.length))
  | .hole, _, _ => .hole
def dzs (b : Bk) : List Ht → (Nat → List Nat) → List Nat → List Ht
  | [], _, _ => []
  | t :: ts, g, us => dz b t (g 0) (us.take (cnt_ b t)) :: dzs b ts (fun k => g (k + 1)) (us.drop (cnt_ b t))
end
theorem own_nd (b : Bk) (n : Nat) (hd : List D) (ks : List Ht) : own b (.nd n hd ks) = (rlI b n).ms.length := rfl
theorem range'_split (s m n : Nat) : List.range' s (m + n) = List.range' s m ++ List.range' (s + m) n := by
  rw [← List.range'_append]
  simp
mutual
theorem dress_dz {b : Bk} (A : BkA b) {N : Nat} (τ : Nat → Nat) : ∀ (t : Ht) (u : List Nat × Nat), LayOk b N t u → dressT b τ t u = dz b t (u.1.map τ) ((List.range' u.2 (cnt_ b t)).map τ)
  | .nd n hd ks, u, o => by
    obtain ⟨n', hd', ks', e, h1, h2, h3⟩ := o.spo_len
    cases e
    have e1 : (List.range' u.2 (cnt_ b (.nd n hd ks))).map τ = (List.range' u.2 (rlI b n).ms.length).map τ ++ (List.range' (u.2 + (rlI b n).ms.length) (cntF b ks)).map τ := by
      rw [cnt_eq, own_nd, show (Ht.nd n hd ks).kids = ks from rfl, range'_split, List.map_append]
    have e2 : (spo b (.nd n hd ks) u).map τ = u.1.map τ ++ ((List.range' u.2 (cnt_ b (.nd n hd ks))).map τ).take (rlI b n).ms.length := by
      rw [e1, List.take_append_of_le_length (by simp), List.take_of_length_le (by simp)]
      unfold spo
      rw [List.map_append, own_nd]
    have e3 : ((List.range' u.2 (cnt_ b (.nd n hd ks))).map τ).drop (rlI b n).ms.length = (List.range' (u.2 + (rlI b n).ms.length) (cntF b ks)).map τ := by
      rw [e1, List.drop_append_of_le_length (by simp), List.drop_of_length_le (by simp), List.nil_append]
    rw [dressT, dz, ← e2, e3]
    congr 1
    refine dresss_dzs (N := N) A τ ks _ _ _ (fun k y hy => ?_) (fun k y hy => ?_) fun k y hy => ?_
    · exact o.kid A hy
    · unfold fL
      obtain ⟨nm, w, _⟩ := o.wf
      obtain ⟨s, q1, q2⟩ := w.kid (k := k) (y := y) hy
      have q1 : (rlI b n).sl[k]? = some s := q1
      have epl : plI b (.nd n hd ks) k = s.pl := by
        unfold plI
        rw [show (Ht.nd n hd ks).num = n from rfl, List.getD_eq_getElem?_getD, q1]
        rfl
      rw [epl, List.getD_eq_getElem?_getD, q1, Option.getD_some]
      show (s.pl.map _).map τ = s.pl.map _
      rw [List.map_map]
      refine List.map_congr_left fun a ha => ?_
      have hlt : a < (spo b (.nd n hd ks) u).length := by
        rw [h3]
        exact ((A.ar n _ h1).1 s (List.mem_of_getElem? q1)).2.2 a ha
      simp [List.getD, hlt]
    · rfl
  | .hole, u, o => by rw [dressT, dz]
theorem dresss_dzs {b : Bk} (A : BkA b) {N : Nat} (τ : Nat → Nat) : ∀ (ts : List Ht) (g : Nat → List Nat × Nat) (g' : Nat → List Nat) (s : Nat), (∀ k y, ts[k]? = some y → LayOk b N y (g k)) → (∀ k y, ts[k]? = some y → (g k).1.map τ = g' k) → (∀ k y, ts[k]? = some y → (g k).2 = s + cntF b (ts.take k)) → dressTs b τ ts g = dzs b ts g' ((List.range' s (cntF b ts)).map τ)
  | [], g, g', s, _, _, _ => by rw [dressTs, dzs]
  | t :: ts, g, g', s, h1, h2, h3 => by
    have hs : (g 0).2 = s := by
      have := h3 0 t rfl
      simpa [cntF, hpres] using this
    have e1 : (List.range' s (cntF b (t :: ts))).map τ = (List.range' s (cnt_ b t)).map τ ++ (List.range' (s + cnt_ b t) (cntF b ts)).map τ := by
      rw [cntF_cons, range'_split, List.map_append]
    have i1 := dress_dz A τ t (g 0) (h1 0 t rfl)
    have i2 := dresss_dzs A τ ts (fun k => g (k + 1)) (fun k => g' (k + 1)) (s + cnt_ b t) (fun k y hy => h1 (k + 1) y (by simpa using hy)) (fun k y hy => h2 (k + 1) y (by simpa using hy)) fun k y hy => by
      have := h3 (k + 1) y (by simpa using hy)
      rw [List.take_succ_cons, cntF_cons] at this
      show (g (k + 1)).2 = _
      omega
    rw [dressTs, dzs, e1, List.take_append_of_le_length (by simp), List.take_of_length_le (by simp), List.drop_append_of_le_length (by simp), List.drop_of_length_le (by simp), List.nil_append, i1, i2, h2 0 t rfl, hs]
end
theorem tau_left {j u : List Nat} : (List.range j.length).map (tauF (j ++ u)) = j := by
  refine List.ext_getElem (by simp) fun i h1 h2 => ?_
  simp [tauF, List.getD, h2, List.getElem?_append_left h2]
theorem tau_right {j u : List Nat} : (List.range' j.length u.length).map (tauF (j ++ u)) = u := by
  refine List.ext_getElem (by simp) fun i h1 h2 => ?_
  simp only [List.getElem_map, List.getElem_range', tauF, List.getD_eq_getElem?_getD]
  rw [List.getElem?_append_right (by omega), show j.length + 1 * i - j.length = i from by omega, List.getElem?_eq_getElem h2]
  rfl
theorem dz_dress {b : Bk} (A : BkA b) {t : Ht} {nm : Str} {jt us : List Nat} (w : WfH b nm t) (hj : jt.length = arF b nm) (hu : us.length = cnt_ b t) : dz b t jt us = dressT b (tauF (jt ++ us)) t (v0 b nm) := by
  rw [dress_dz A (tauF (jt ++ us)) t (v0 b nm) (v0_ok w)]
  show _ = dz b t ((List.range (arF b nm)).map _) ((List.range' (arF b nm) (cnt_ b t)).map _)
  rw [← hj, ← hu, tau_left, tau_right]
mutual
theorem okP_dz {b : Bk} : ∀ (t : Ht) (jt us : List Nat), Pd (dz b t jt us).d ∧ okD (dz b t jt us).d
  | .hole, jt, us => by
    rw [dz, ht_hole]
    exact ⟨trivial, trivial⟩
  | .nd n hd ks, jt, us => by
    have h := okP_dzs (b := b) ks (fun k => ((rlI b n).sl.getD k ⟨"", []⟩).pl.map fun a => (jt ++ us.take (rlI b n).ms.length).getD a 0) (us.drop (rlI b n).ms.length)
    rw [dz]
    refine ⟨pd_nd.mpr ⟨fun d hd => ?_, fun y hy => (h y hy).1⟩, hok_nd.mpr ⟨fun d hd => ?_, fun y hy => (h y hy).2⟩⟩
    · simp at hd
      subst hd
      exact pd_nats _
    · simp at hd
      subst hd
      rw [okD_tup]
      intro d hd
      obtain ⟨q, _, rfl⟩ := List.mem_map.mp hd
      trivial
theorem okP_dzs {b : Bk} : ∀ (ts : List Ht) (g : Nat → List Nat) (us : List Nat), ∀ y ∈ dzs b ts g us, Pd y.d ∧ okD y.d
  | [], g, us, y, hy => by rw [dzs] at hy; simp at hy
  | t :: ts, g, us, y, hy => by
    rw [dzs] at hy
    rcases List.mem_cons.mp hy with e | hy
    · rw [e]
      exact okP_dz t _ _
    · exact okP_dzs ts _ _ y hy
end
theorem put_tr : ∀ (p : List Nat) (t o : Tr), ∃ t3 : Tr, t3.h = t.h.put p o.h
  | [], t, o => ⟨o, by
    have e1 : ∀ a o : Ht, a.put [] o = o := fun a o => by cases a <;> rw [Ht.put]
    rw [e1]⟩
  | k :: p, .nd n ps, o => by
    rw [th_nd, Ht.put, List.getElem?_map]
    cases e : ps[k]? with
    | none => exact ⟨.nd n ps, by rw [th_nd]; rfl⟩
    | some z =>
      obtain ⟨t3, h3⟩ := put_tr p z o
      refine ⟨.nd n (ps.set k t3), ?_⟩
      rw [th_nd, List.map_set, h3]
      rfl
theorem WfH.put {b : Bk} : ∀ (p : List Nat) (nm : Str) (t x y : Ht) (nmx : Str), WfH b nm t → t.sub p = some x → WfH b nmx x → WfH b nmx y → WfH b nm (t.put p y)
  | [], nm, t, x, y, nmx, w, h, wx, wy => by
    rw [Ht.sub] at h
    cases h
    have e1 : t.put [] y = y := by cases t <;> rw [Ht.put]
    rw [e1]
    obtain ⟨n, hd, ks, e, h1, h2, h3⟩ := w.top
    obtain ⟨n', hd', ks', e', h1', h2', h3'⟩ := wx.top
    rw [e] at e'
    cases e'
    rw [← h2, h2']
    exact wy
  | k :: p, nm, .hole, x, y, nmx, w, h, wx, wy => by simp [WfH] at w
  | k :: p, nm, .nd n hd ks, x, y, nmx, w, h, wx, wy => by
    rw [Ht.sub] at h
    obtain ⟨z, e1, e2⟩ := Option.bind_eq_some_iff.mp h
    have e1 : ks[k]? = some z := e1
    rw [Ht.put, e1]
    rw [WfH] at w ⊢
    obtain ⟨r, h1, h2, h3⟩ := w
    refine ⟨r, h1, h2, ?_⟩
    have : ∀ (xs : List Str) (ks : List Ht) (k : Nat), WfHs b xs ks → ks[k]? = some z → WfHs b xs (ks.set k (z.put p y)) := by
      intro xs ks
      induction ks generalizing xs with
      | nil => intro k _ h; simp at h
      | cons t ks ih =>
        intro k w h
        cases xs with
        | nil => simp [WfHs] at w
        | cons a xs =>
        rw [WfHs] at w
        cases k with
        | zero =>
          simp at h
          subst h
          rw [List.set_cons_zero, WfHs]
          exact ⟨WfH.put p a t x y nmx w.1 e2 wx wy, w.2⟩
        | succ k =>
          rw [List.set_cons_succ, WfHs]
          exact ⟨w.1, ih xs k w.2 (by simpa using h)⟩
    exact this _ ks k h3 e1

def isHole : Ht → Bool
  | .hole => true
  | .nd _ _ _ => false
section
variable {k : Nat} {S : Sto} {Q : D → Sto → Prop} {t o y : Ht} {p : List Nat}
end
section
variable {k : Nat} {S : Sto} {Q : D → Sto → Prop}
end
def pN {α : Type} : List (Nat × α) → Nat → α → List (Nat × α)
  | [], s, a => [(s, a)]
  | (j, b) :: r, s, a => if j = s then (j, a) :: r else (j, b) :: pN r s a
section
variable {α : Type} {e : α → D}
theorem pN_keys (s : Nat) (a : α) : ∀ l : List (Nat × α), (pN l s a).map (·.1) = if s ∈ l.map (·.1) then l.map (·.1) else l.map (·.1) ++ [s]
  | [] => rfl
  | (j, b) :: r => by
    unfold pN
    by_cases c : j = s
    · rw [if_pos c, if_pos (by simp [c])]
      rfl
    · rw [if_neg c, List.map_cons, pN_keys s a r, List.map_cons]
      by_cases m : s ∈ r.map (·.1)
      · rw [if_pos m, if_pos (List.mem_cons_of_mem _ m)]
      · rw [if_neg m, if_neg (by
          intro z
          rcases List.mem_cons.mp z with z | z
          · exact c z.symm
          · exact m z)]
        rfl
end
/-- tags put down so far -/
structure TgOk (τ : Nat → Nat) (N : Nat) (l : List (Nat × Nat)) : Prop where
  nd : (l.map (·.1)).Nodup
  val : ∀ p ∈ l, p.2 = τ p.1 ∧ p.1 < N
theorem TgOk.put {τ : Nat → Nat} {N : Nat} {l : List (Nat × Nat)} {q : Nat} (o : TgOk τ N l) (h : q < N) : TgOk τ N (pN l q (τ q)) ∧ ∀ s, s ∈ (pN l q (τ q)).map (·.1) ↔ s = q ∨ s ∈ l.map (·.1) := by
  have hk := pN_keys q (τ q) l
  have hm : ∀ s, s ∈ (pN l q (τ q)).map (·.1) ↔ s = q ∨ s ∈ l.map (·.1) := fun s => by
    rw [hk]
    by_cases m : q ∈ l.map (·.1)
    · rw [if_pos m]
      constructor
      · exact fun z => .inr z
      · rintro (rfl | z)
        · exact m
        · exact z
    · rw [if_neg m, List.mem_append, List.mem_singleton]
      exact Or.comm
  refine ⟨⟨?_, ?_⟩, hm⟩
  · rw [hk]
    by_cases m : q ∈ l.map (·.1)
    · rw [if_pos m]
      exact o.nd
    · rw [if_neg m]
      refine List.nodup_append.mpr ⟨o.nd, by simp, fun a ha b hb => ?_⟩
      simp at hb
      subst hb
      exact fun z => m (z ▸ ha)
  · have : ∀ l : List (Nat × Nat), (∀ p ∈ l, p.2 = τ p.1 ∧ p.1 < N) → ∀ p ∈ pN l q (τ q), p.2 = τ p.1 ∧ p.1 < N := by
      intro l
      induction l with
      | nil =>
        intro _ p hp
        simp [pN] at hp
        subst hp
        exact ⟨rfl, h⟩
      | cons x l ih =>
        intro hl p hp
        obtain ⟨j, b⟩ := x
        unfold pN at hp
        by_cases c : j = q
        · rw [if_pos c] at hp
          rcases List.mem_cons.mp hp with rfl | hp
          · exact ⟨by simp [c], by simpa [c] using h⟩
          · exact hl p (by simp [hp])
        · rw [if_neg c] at hp
          rcases List.mem_cons.mp hp with rfl | hp
          · exact hl _ (by simp)
          · exact ih (fun p hp => hl p (by simp [hp])) p hp
    exact this l o.val
section
variable {k : Nat} {S : Sto} {Q : D → Sto → Prop} {b : Bk} {t : Tr} {nm : Str} {τs : List Nat}
theorem dr_rows (b : Bk) (τ : Nat → Nat) (t : Ht) (v : List Nat × Nat) : (dressT b τ t v).pre.map (fun x => (x.num, x.kids.length)) = t.pre.map fun x => (x.num, x.kids.length) := by
  rw [dress_pre]
  refine List.ext_getElem (by simp [drL_len]) fun i h1 h2 => ?_
  have hi : i < t.pre.length := by simpa using h2
  have hx : t.pre[i]? = some t.pre[i] := List.getElem?_eq_getElem hi
  obtain ⟨u, hu⟩ := lay_get b t v hi
  have hd := drL_get (τ := τ) hx hu
  have e := List.getElem?_eq_some_iff.mp hd
  rw [List.getElem_map, List.getElem_map, e.2]
  generalize t.pre[i] = x
  cases x with
  | nd n hd ks =>
    rw [dressT]
    simp [Ht.num, Ht.kids, dressTs_len]
  | hole => rw [dressT]
theorem dr_klen {b : Bk} {τ : Nat → Nat} {t : Ht} {v : List Nat × Nat} {m : Nat} (h : ∀ x ∈ t.pre, x.kids.length ≤ m) : ∀ x ∈ (dressT b τ t v).pre, x.kids.length ≤ m := fun x hx => by
  have e := dr_rows b τ t v
  have : (x.num, x.kids.length) ∈ (dressT b τ t v).pre.map fun x => (x.num, x.kids.length) := List.mem_map.mpr ⟨x, hx, rfl⟩
  rw [e] at this
  obtain ⟨y, hy, e2⟩ := List.mem_map.mp this
  have := h y hy
  simp only [Prod.mk.injEq] at e2
  omega
theorem dr_len (b : Bk) (τ : Nat → Nat) (t : Ht) (v : List Nat × Nat) : (dressT b τ t v).pre.length = t.pre.length := by rw [dress_pre, drL_len]
end
theorem cutS_to (l : List Nat) (n : Nat) : cutS (stS l) none (some (n : Int)) = stS (l.take n) := by
  unfold cutS
  rw [HT.sIx_nat, HT.sIx_none, st_length]
  show stS _ = stS _
  congr 1
  simp [stS]
theorem cutS_mid (l : List Nat) (a n : Nat) (ha : a ≤ n) (hn : n ≤ l.length) : cutS (stS l) (some (a : Int)) (some (n : Int)) = stS ((l.drop a).take (n - a)) := by
  unfold cutS
  rw [HT.sIx_nat, HT.sIx_nat, st_length, Nat.min_eq_left hn, Nat.min_eq_left (by omega)]
  rfl
theorem mul_fold : ∀ (n : Nat) (z a : Array Nat), ((List.replicate n z).foldl (· ++ ·) a).size = a.size + n * z.size
  | 0, z, a => by simp
  | n + 1, z, a => by
    rw [List.replicate_succ, List.foldl_cons, mul_fold n]
    simp [Nat.succ_mul]
    omega
theorem mul20_len (z : Str) (h : z.length = 3) : (Txt.mul z 20).length = 60 := by
  unfold Txt.mul
  rw [if_neg (by decide), if_neg (by rw [h]; decide)]
  show ((List.replicate 20 z.cps).foldl (· ++ ·) #[]).size = 60
  rw [mul_fold]
  have : z.cps.size = 3 := h
  rw [this]
  rfl
theorem mul20_ok (z : Str) (h : z.length = 3) : MulOk z 20 := by
  refine ⟨by decide, fun _ _ => ?_, fun _ _ => ?_⟩
  · rw [h]; decide
  · rw [h]; decide
theorem stS_eta (z : Str) : z = stS z.cps.toList := rfl
theorem stS_inj {a b : List Nat} (h : stS a = stS b) : a = b := by
  have : a.toArray = b.toArray := congrArg Str.cps h
  simpa using this
structure TtOk (l : List Str) : Prop where
  nd : l.Nodup
  ne : ∀ s ∈ l, s.length ≠ 0
  le : ∀ s ∈ l, s.length ≤ 64
  ok : ∀ s ∈ l, PyData.strOk s = true
def Asc (l : List Nat) : Prop := ∀ c ∈ l, c < 1114112
theorem strOk_st {l : List Nat} (h : Asc l) : PyData.strOk (stS l) = true := by
  show (l.toArray.all fun c => decide (c < 0x110000)) = true
  simp only [List.all_toArray, List.all_eq_true, decide_eq_true_eq]
  exact h
theorem asc_st {s : Str} (h : PyData.strOk s = true) : Asc s.cps.toList := by
  have h : (s.cps.all fun c => decide (c < 0x110000)) = true := h
  rw [← Array.all_toList] at h
  intro c hc
  exact of_decide_eq_true (List.all_eq_true.mp h c hc)
theorem Asc.app {a b : List Nat} (h : Asc a) (g : Asc b) : Asc (a ++ b) := fun c hc => (List.mem_append.mp hc).elim (h c) (g c)
theorem Asc.take {a : List Nat} (h : Asc a) (n : Nat) : Asc (a.take n) := fun c hc => h c (List.mem_of_mem_take hc)
theorem Asc.drop {a : List Nat} (h : Asc a) (n : Nat) : Asc (a.drop n) := fun c hc => h c (List.mem_of_mem_drop hc)
theorem getD_asc {l : List Nat} (h : Asc l) (i : Nat) : l.getD i 0 < 1114112 := by
  rw [List.getD_eq_getElem?_getD]
  cases e : l[i]? with
  | none => decide
  | some c => exact h c (List.mem_of_getElem? e)
theorem ttOk_map {m : Nat} {f : Nat → Str} (inj : ∀ i < m, ∀ j < m, f i = f j → i = j) (ne : ∀ i < m, (f i).length ≠ 0) (le : ∀ i < m, (f i).length ≤ 64) (ok : ∀ i < m, PyData.strOk (f i) = true) : TtOk ((List.range m).map f) := by
  refine ⟨?_, fun s hs => ?_, fun s hs => ?_, fun s hs => ?_⟩
  · rw [List.Nodup, List.pairwise_map]
    refine List.Pairwise.imp_of_mem (fun {a b} ha hb hab e => ?_) (List.nodup_range (n := m))
    exact hab (inj a (List.mem_range.mp ha) b (List.mem_range.mp hb) e)
  · obtain ⟨i, hi, rfl⟩ := List.mem_map.mp hs
    exact ne i (List.mem_range.mp hi)
  · obtain ⟨i, hi, rfl⟩ := List.mem_map.mp hs
    exact le i (List.mem_range.mp hi)
  · obtain ⟨i, hi, rfl⟩ := List.mem_map.mp hs
    exact ok i (List.mem_range.mp hi)
theorem TtOk.perm {l m : List Str} (o : TtOk l) (h : m.Perm l) : TtOk m := ⟨h.nodup_iff.mpr o.nd, fun s hs => o.ne s (h.mem_iff.mp hs), fun s hs => o.le s (h.mem_iff.mp hs), fun s hs => o.ok s (h.mem_iff.mp hs)⟩
def caps : Str := "ABCDEFGHIJKLMNOPQRSTUVWXYZ"
def signs2 : Str := "abcdefghijklmnopqrstuvwxyz0123456789_ABCDEFGHIJKLMNOPQRSTUVWXYZ"
theorem at_caps {i : Int} (h0 : 0 ≤ i) (h1 : i < 26) : atI caps.cps.toList i = some (caps.cps.toList.getD i.toNat 0) := by
  have e : caps.cps.toList.length = 26 := by decide
  unfold atI ixN
  rw [if_pos h0, if_pos (by omega)]
  simp only [Option.bind_some, List.getD_eq_getElem?_getD]
  rw [List.getElem?_eq_getElem (by omega)]
  rfl
theorem at_signs {i : Int} (h0 : 0 ≤ i) (h1 : i < 63) : atI signs2.cps.toList i = some (signs2.cps.toList.getD i.toNat 0) := by
  have e : signs2.cps.toList.length = 63 := by decide
  unfold atI ixN
  rw [if_pos h0, if_pos (by omega)]
  simp only [Option.bind_some, List.getD_eq_getElem?_getD]
  rw [List.getElem?_eq_getElem (by omega)]
  rfl
theorem getD_inj {l : List Nat} (nd : l.Nodup) {i j : Nat} (hi : i < l.length) (hj : j < l.length) (h : l.getD i 0 = l.getD j 0) : i = j := by
  rw [List.getD_eq_getElem?_getD, List.getD_eq_getElem?_getD, List.getElem?_eq_getElem hi, List.getElem?_eq_getElem hj] at h
  exact (List.getElem_inj nd).mp h
theorem caps_asc : Asc caps.cps.toList := by unfold Asc; decide
theorem signs_asc : Asc signs2.cps.toList := by unfold Asc; decide
theorem mul_asc (z : List Nat) (h : Asc z) : Asc (Txt.mul (stS z) 20).cps.toList := by
  have key : ∀ (n : Nat) (a : Array Nat), Asc a.toList → Asc ((List.replicate n z.toArray).foldl (· ++ ·) a).toList := by
    intro n
    induction n with
    | zero => intro a h; exact h
    | succ n ih =>
      intro a ha
      rw [List.replicate_succ, List.foldl_cons]
      refine ih _ ?_
      rw [Array.toList_append]
      exact ha.app h
  unfold Txt.mul
  split
  · intro c hc; simp [Str.empty] at hc
  · split
    · exact h
    · exact key _ _ (by intro c hc; simp at hc)
def dig (i : Nat) : Str := toString (i : Int)
theorem dig_facts : ∀ i < 64, 1 ≤ (dig i).length ∧ (dig i).length ≤ 2 := by decide +kernel
theorem dig_ok : ∀ i < 64, PyData.strOk (dig i) = true := by decide +kernel
theorem strOk_app {a b : Str} (h : PyData.strOk a = true) (g : PyData.strOk b = true) : PyData.strOk (a ++ b) = true := by
  rw [stS_eta a, stS_eta b, st_append]
  exact strOk_st ((asc_st h).app (asc_st g))
theorem dig_inj : ∀ i < 64, ∀ j < 64, dig i = dig j → i = j := by decide +kernel
theorem app_inj {p s t : Str} (h : p ++ s = p ++ t) : s = t := by
  rw [stS_eta p, stS_eta s, stS_eta t, st_append, st_append] at h
  have := List.append_cancel_left (stS_inj h)
  rw [stS_eta s, stS_eta t, this]
theorem str_app_len (a b : Str) : (a ++ b).length = a.length + b.length := by
  rw [stS_eta a, stS_eta b, st_append, st_length, st_length, st_length, List.length_append]
theorem titA_ok {m size : Nat} {stem : List Nat} (hm : m ≤ 64) (hs : stem.length = 61) (hA : Asc stem) : TtOk ((List.range m).map fun i => stS (stem.take (min size 58)) ++ dig i) := by
  refine ttOk_map (fun i hi j hj e => dig_inj i (by omega) j (by omega) (app_inj e)) (fun i hi => ?_) (fun i hi => ?_) (fun i hi => ?_)
  · rw [str_app_len]
    have := (dig_facts i (by omega)).1
    omega
  · rw [str_app_len, st_length, List.length_take]
    have := (dig_facts i (by omega)).2
    omega
  · exact strOk_app (strOk_st (hA.take _)) (dig_ok i (by omega))
theorem titB_ok {m : Nat} {stem : List Nat} (hm : m ≤ 20) (hs : stem.length = 61) (hA : Asc stem) : TtOk ((List.range m).map fun i => stS (stem.take (i + 1))) := by
  refine ttOk_map (fun i hi j hj e => ?_) (fun i hi => ?_) (fun i hi => ?_) (fun i hi => ?_)
  · have := congrArg List.length (stS_inj e)
    rw [List.length_take, List.length_take] at this
    omega
  · rw [st_length, List.length_take]
    omega
  · rw [st_length, List.length_take]
    omega
  · exact strOk_st (hA.take _)
theorem stp_inj {n step i j start : Nat} (hn : n = 26 ∨ n = 63) (hs : step = 1 ∨ step = 5) (hi : i < 20) (hj : j < 20) (h : (start + i * step) % n = (start + j * step) % n) : i = j := by
  rcases hn with rfl | rfl <;> rcases hs with rfl | rfl <;> omega
theorem caps_nd : caps.cps.toList.Nodup := by decide
theorem signs_nd : signs2.cps.toList.Nodup := by decide
theorem titC_ok {m size start step : Nat} {stem : List Nat} (hm : m ≤ 20) (hz : size ≤ 60) (hs : stem.length = 61) (hA : Asc stem) (hst : step = 1 ∨ step = 5) :
    TtOk ((List.range m).map fun i => stS (caps.cps.toList.getD ((start + i * step) % 26) 0 :: (stem.drop 1).take (size - 1))) := by
  refine ttOk_map (fun i hi j hj e => ?_) (fun i hi => ?_) (fun i hi => ?_) (fun i hi => ?_)
  · have := stS_inj e
    rw [List.cons.injEq] at this
    have cl : caps.cps.toList.length = 26 := by decide
    exact stp_inj (.inl rfl) hst (by omega) (by omega) (getD_inj caps_nd (by rw [cl]; exact Nat.mod_lt _ (by decide)) (by rw [cl]; exact Nat.mod_lt _ (by decide)) this.1)
  · rw [st_length, List.length_cons]
    omega
  · rw [st_length, List.length_cons, List.length_take]
    omega
  · exact strOk_st (fun c hc => (List.mem_cons.mp hc).elim (fun e => by rw [e]; exact getD_asc caps_asc _) fun h => (hA.drop _).take _ c h)
theorem titD_ok {m size start step at_ : Nat} {stem : List Nat} (hm : m ≤ 20) (hz : size ≤ 60) (hs : stem.length = 61) (hA : Asc stem) (hst : step = 1 ∨ step = 5) (ha : at_ < size) :
    TtOk ((List.range m).map fun i => stS (stem.take at_ ++ [signs2.cps.toList.getD ((start + i * step) % 63) 0] ++ (stem.drop (at_ + 1)).take (size - (at_ + 1)))) := by
  refine ttOk_map (fun i hi j hj e => ?_) (fun i hi => ?_) (fun i hi => ?_) (fun i hi => ?_)
  · have := stS_inj e
    rw [List.append_assoc, List.append_assoc] at this
    have := List.append_cancel_left this
    rw [List.singleton_append, List.singleton_append, List.cons.injEq] at this
    have cl : signs2.cps.toList.length = 63 := by decide
    exact stp_inj (.inr rfl) hst (by omega) (by omega) (getD_inj signs_nd (by rw [cl]; exact Nat.mod_lt _ (by decide)) (by rw [cl]; exact Nat.mod_lt _ (by decide)) this.1)
  · rw [st_length, List.length_append, List.length_append, List.length_singleton]
    omega
  · rw [st_length, List.length_append, List.length_append, List.length_singleton, List.length_take, List.length_take, List.length_drop]
    omega
  · exact strOk_st (((hA.take _).app (fun c hc => by rw [List.mem_singleton.mp hc]; exact getD_asc signs_asc _)).app ((hA.drop _).take _))
section
variable {k : Nat} {R : Sto} {Q : D → Sto → Prop} {d : DS} {m : Nat}
theorem sizes_at {y : Int} (h0 : 0 ≤ y) (h1 : y < 6) : ∃ z : Nat, 1 ≤ z ∧ z ≤ 60 ∧ atI [D.int 1, D.int 2, D.int 3, D.int 4, D.int 7, D.int 60] y = some (natD z) := by
  obtain ⟨y, rfl⟩ := Int.eq_ofNat_of_zero_le h0
  have : y < 6 := by omega
  match y, this with
  | 0, _ => exact ⟨1, by omega, by omega, rfl⟩
  | 1, _ => exact ⟨2, by omega, by omega, rfl⟩
  | 2, _ => exact ⟨3, by omega, by omega, rfl⟩
  | 3, _ => exact ⟨4, by omega, by omega, rfl⟩
  | 4, _ => exact ⟨7, by omega, by omega, rfl⟩
  | 5, _ => exact ⟨60, by omega, by omega, rfl⟩
  | n + 6, h => omega
/-- the last line: the titles, shuffled -/
theorem titles_fin {d0 d1 : DS} {A : Sto} {ρ : En} {l : List Str} (hl : l.length = m) (hm : m ≤ 64) (o : TtOk l) (h : ∀ (l : List Str) (b : Nat) (g : Sto) (d' : DS), l.length = m → TtOk l → R.length ≤ b → (R ++ g)[b]? = some (.lst (l.map .str)) → Q (.ref (b + 2)) (d'.st (R ++ g)))
    (hA : ∃ g, A = R ++ g) (h0 : ρ[0]? = some (some (.ref 1))) (h10 : ρ[10]? = some (some (.ref (A.length + 2)))) : W (evSs (orc T (k + 3)) b__law_titles_1 ρ (d1.st (A ++ [.lst (l.map D.str)]))) fun fl S1 => W (retK fl S1) fun v S' => W (gc (d0.st R) v S') Q := by
  obtain ⟨g, rfl⟩ := hA
  simp only [b__law_titles_1]
  mul_fits
  refine w_var h0 ?_
  mul_fits
  refine w_var h10 ?_
  mul_fits
  refine shuffled_w (b := (R ++ g).length) (row := l.map D.str) (by rw [List.length_map]; omega) (get_end _ _) fun got g2 d2 hp => ?_
  obtain ⟨fl, hp2, rfl⟩ := perm_of_map hp
  mul_fits
  rw [gc_out (by simp [below, st_len]; omega)]
  refine w_ok ?_
  have e : R ++ g ++ [Ob.lst (l.map D.str)] ++ (g2 ++ [Ob.lst (fl.map D.str)]) = R ++ (g ++ [Ob.lst (l.map D.str)] ++ (g2 ++ [Ob.lst (fl.map D.str)])) := by simp
  rw [e]
  refine h fl _ _ d2 (by rw [hp2.length_eq]; exact hl) (o.perm hp2) (by simp; omega) ?_
  rw [← e]
  have := get_g (R := R ++ g ++ [Ob.lst (l.map D.str)]) (d := d2) (g := g2) (o := .lst (fl.map D.str))
  rw [st_get] at this
  exact this
end
section
variable {k : Nat} {R : Sto} {Q : D → Sto → Prop} {d : DS} {m : Nat}
theorem v_slcX {z : Str} {lo hi : Option Int} {S : Sto} {Q : D → Sto → Prop} (k : z.length ≤ sizeLine) (h : Q (.str (cutS z lo hi)) S) : W (slcD (.str z) lo hi S) Q := by
  simpa [slcD, k] using h
theorem titles_w (hm : 1 ≤ m ∧ m ≤ 64) (h20 : m ≤ 20 ∨ 20 < m) (h : ∀ (l : List Str) (b : Nat) (g : Sto) (d' : DS), l.length = m → TtOk l → R.length ≤ b → (R ++ g)[b]? = some (.lst (l.map .str)) → Q (.ref (b + 2)) (d'.st (R ++ g))) : W (orc T (k + 4) n__law_titles [.ref 1, natD m] (d.st R)) Q := by
  refine orc_w (ρ := [some (.ref 1), some (natD m), none, none, none, none, none, none, none, none, none, none]) rfl rfl rfl ?_
  show W (evSs _ b__law_titles _ _) _
  simp only [b__law_titles]
  mul_fits
  refine draw_ (by decide) (by decide) fun y1 d1 p1 p2 => ?_
  obtain ⟨size, z1, z2, z3⟩ := sizes_at p1 p2
  refine v_idx (S := d1.st (R ++ [Ob.lst [D.int 1, D.int 2, D.int 3, D.int 4, D.int 7, D.int 60]])) (a := R.length + 2) (by rw [st_get]; exact get_end _ _) z3 ?_
  generalize e1 : R ++ [Ob.lst [D.int 1, D.int 2, D.int 3, D.int 4, D.int 7, D.int 60]] = R1
  mul_fits
  refine draw_ (by decide) (by decide) fun y2 d2 p3 p4 => ?_
  refine v_idxS (le64 (by decide)) (at_caps p3 p4) ?_
  mul_fits
  refine ⟨le_size (by decide), ?_⟩
  refine loopQ_w (fun ds r S' => ∃ (z : List Nat) (d' : DS), r = z.map singD ∧ S' = d'.st R1 ∧ z.length + ds.length = 3 ∧ Asc z) ?_ ?_ _ _ ⟨[], d2, rfl, rfl, rfl, fun _ h => nomatch h⟩
  · rintro e2 ds2 r2 S2 ⟨z, d2, rfl, rfl, z1, zA⟩
    refine ⟨trivial, ?_⟩
    mul_fits
    refine draw_ (by decide) (by decide) fun u d3 u0 u1 => ?_
    refine v_idxS (le64 (by decide)) (at_signs u0 u1) ?_
    mul_fits
    exact ⟨z ++ [signs2.cps.toList.getD u.toNat 0], d3, by simp; rfl, rfl, by simp at z1 ⊢; omega, zA.app fun c hc => by rw [List.mem_singleton.mp hc]; exact getD_asc signs_asc _⟩
  rintro r2 S2 ⟨z, d2, rfl, rfl, zl, zA⟩
  refine ⟨trivial, ?_⟩
  have zl : z.length = 3 := by simpa using zl
  mul_fits
  try (refine w_may (strs_sing _) ?_)
  refine w_ask ?_ ?_
  · rw [sum_ones]
    have : Str.length "" = 0 := by decide
    rw [this]
    exact le_size (by omega)
  rw [glued_sing]
  have zl2 : (stS z).length = 3 := by rw [st_length]; exact zl
  mul_fits
  refine v_mulS (mul20_ok _ zl2) ?_
  have hml := mul20_len _ zl2
  have hmA := mul_asc z zA
  generalize Txt.mul (stS z) 20 = w at hml hmA
  mul_fits
  refine v_addS (le_size (by rw [hml]; show 1 + 60 ≤ _; omega)) ?_
  obtain ⟨stem, hst, hsl, hA⟩ : ∃ stem : List Nat, (⟨#[caps.cps.toList.getD y2.toNat 0]⟩ : Str) ++ w = stS stem ∧ stem.length = 61 ∧ Asc stem := by
    refine ⟨caps.cps.toList.getD y2.toNat 0 :: w.cps.toList, ?_, ?_, fun c hc => (List.mem_cons.mp hc).elim (fun e => by rw [e]; exact getD_asc caps_asc _) (hmA c)⟩
    · show (⟨#[_] ++ w.cps⟩ : Str) = ⟨(_ :: w.cps.toList).toArray⟩
      simp
    · rw [List.length_cons, Array.length_toList]
      have : w.cps.size = 60 := hml
      omega
  rw [hst]
  mul_fits
  refine draw_ (by decide) (by decide) fun way d3 w0 w1 => ?_
  mul_fits
  refine draw_ (by omega) (by omega) fun at_ d4 a0 a1 => ?_
  obtain ⟨at_, rfl⟩ := Int.eq_ofNat_of_zero_le a0
  mul_fits
  refine draw_ (by decide) (by decide) fun start d5 s0 s1 => ?_
  obtain ⟨start, rfl⟩ := Int.eq_ofNat_of_zero_le s0
  mul_fits
  refine pick_w (b := R1.length) (row := [.int 1, .int 5]) (by decide) (by decide) (get_end _ _) fun st hst' d6 => ?_
  obtain ⟨step, rfl, hstep⟩ : ∃ step : Nat, st = natD step ∧ (step = 1 ∨ step = 5) := by
    simp at hst'
    rcases hst' with rfl | rfl
    · exact ⟨1, rfl, .inl rfl⟩
    · exact ⟨5, rfl, .inr rfl⟩
  mul_fits
  have hmul : ∀ i : Nat, i < 64 → IntMulOk (i : Int) (step : Int) := fun i hi => by rcases hstep with rfl | rfl <;> exact .of_right (by decide +kernel)
  by_cases hc : (20 : Int) < (m : Int)
  · rw [if_pos (by simpa using hc)]
    mul_fits
    refine ⟨by show (rgD 0 (m : Int)).length ≤ _; rw [rgD0]; simp; exact le_size (by omega), ?_⟩
    show W (loopQ _ _ (rgD 0 (m : Int)) _) _
    rw [rgD0]
    refine loopQ_m natD (fun i => .str (stS (stem.take (min size 58)) ++ dig i)) (fun S' => S' = d6.st (R1 ++ [Ob.lst [D.int 1, D.int 5]])) (List.range m) (fun i hi S e => ⟨trivial, ?_⟩) (fun S e => ⟨trivial, ?_⟩) _ rfl
    · subst e
      have hi := List.mem_range.mp hi
      mul_fits
      have emin : (if (58 : Int) < (size : Int) then (58 : Int) else (size : Int)) = ((min size 58 : Nat) : Int) := by split <;> omega
      rw [emin]
      refine v_slcX (by rw [st_length]; exact le_size (by omega)) ?_
      rw [cutS_to]
      mul_fits
      refine v_str (by have : ((i : Nat) : Int).natAbs < 64 := by omega
                       exact Nat.lt_of_le_of_lt (Nat.log2_le_self _) (by omega)) ?_
      mul_fits
      have := (dig_facts i (by omega)).2
      refine v_addS (le_size (by rw [st_length, List.length_take]; show _ + (dig i).length ≤ _; omega)) ?_
      mul_fits
      exact ⟨rfl, rfl⟩
    subst e
    mul_fits
    have e9 : ((List.range m).map fun i => D.str (stS (stem.take (min size 58)) ++ dig i)) = ((List.range m).map fun i => stS (stem.take (min size 58)) ++ dig i).map D.str := by rw [List.map_map]; rfl
    rw [e9]
    subst e1
    exact titles_fin (d0 := d) (m := m) (l := (List.range m).map fun i => stS (stem.take (min size 58)) ++ dig i) (A := R ++ [Ob.lst [D.int 1, D.int 2, D.int 3, D.int 4, D.int 7, D.int 60]] ++ [Ob.lst [D.int 1, D.int 5]]) (by simp) hm.2 (titA_ok (size := size) hm.2 hsl hA) h ⟨_, List.append_assoc _ _ _⟩ rfl rfl
  rw [if_neg (by simpa using hc)]
  mul_fits
  refine w_ifd (fun hw => ?_) fun hw => ?_
  · mul_fits
    refine ⟨by show (rgD 0 (m : Int)).length ≤ _; rw [rgD0]; simp; exact le_size (by omega), ?_⟩
    show W (loopQ _ _ (rgD 0 (m : Int)) _) _
    rw [rgD0]
    refine loopQ_m natD (fun i => .str (stS (stem.take (min size 58)) ++ dig i)) (fun S' => S' = d6.st (R1 ++ [Ob.lst [D.int 1, D.int 5]])) (List.range m) (fun i hi S e => ⟨trivial, ?_⟩) (fun S e => ⟨trivial, ?_⟩) _ rfl
    · subst e
      have hi := List.mem_range.mp hi
      mul_fits
      have emin : (if (58 : Int) < (size : Int) then (58 : Int) else (size : Int)) = ((min size 58 : Nat) : Int) := by split <;> omega
      rw [emin]
      refine v_slcX (by rw [st_length]; exact le_size (by omega)) ?_
      rw [cutS_to]
      mul_fits
      refine v_str (by have : ((i : Nat) : Int).natAbs < 64 := by omega
                       exact Nat.lt_of_le_of_lt (Nat.log2_le_self _) (by omega)) ?_
      mul_fits
      have := (dig_facts i (by omega)).2
      refine v_addS (le_size (by rw [st_length, List.length_take]; show _ + (dig i).length ≤ _; omega)) ?_
      mul_fits
      exact ⟨rfl, rfl⟩
    subst e
    mul_fits
    have e9 : ((List.range m).map fun i => D.str (stS (stem.take (min size 58)) ++ dig i)) = ((List.range m).map fun i => stS (stem.take (min size 58)) ++ dig i).map D.str := by rw [List.map_map]; rfl
    rw [e9]
    subst e1
    exact titles_fin (d0 := d) (m := m) (l := (List.range m).map fun i => stS (stem.take (min size 58)) ++ dig i) (A := R ++ [Ob.lst [D.int 1, D.int 2, D.int 3, D.int 4, D.int 7, D.int 60]] ++ [Ob.lst [D.int 1, D.int 5]]) (by simp) hm.2 (titA_ok (size := size) hm.2 hsl hA) h ⟨_, List.append_assoc _ _ _⟩ rfl rfl
  mul_fits
  refine w_ifd (fun hw => ?_) fun hw => ?_
  · mul_fits
    refine ⟨by show (rgD 0 (m : Int)).length ≤ _; rw [rgD0]; simp; exact le_size (by omega), ?_⟩
    show W (loopQ _ _ (rgD 0 (m : Int)) _) _
    rw [rgD0]
    refine loopQ_m natD (fun i => .str (stS (stem.take (i + 1)))) (fun S' => S' = d6.st (R1 ++ [Ob.lst [D.int 1, D.int 5]])) (List.range m) (fun i hi S e => ⟨trivial, ?_⟩) (fun S e => ⟨trivial, ?_⟩) _ rfl
    · subst e
      have hi := List.mem_range.mp hi
      mul_fits
      have emin : ((i : Int) + 1) = ((i + 1 : Nat) : Int) := by omega
      rw [emin]
      refine v_slcX (by rw [st_length]; exact le_size (by omega)) ?_
      rw [cutS_to]
      mul_fits
      exact ⟨rfl, rfl⟩
    subst e
    mul_fits
    have e9 : ((List.range m).map fun i => D.str (stS (stem.take (i + 1)))) = ((List.range m).map fun i => stS (stem.take (i + 1))).map D.str := by rw [List.map_map]; rfl
    rw [e9]
    subst e1
    exact titles_fin (d0 := d) (m := m) (l := (List.range m).map fun i => stS (stem.take (i + 1))) (A := R ++ [Ob.lst [D.int 1, D.int 2, D.int 3, D.int 4, D.int 7, D.int 60]] ++ [Ob.lst [D.int 1, D.int 5]]) (by simp) hm.2 (titB_ok (by omega) hsl hA) h ⟨_, List.append_assoc _ _ _⟩ rfl rfl
  mul_fits
  refine w_ifd (fun hw2 => ?_) fun hw2 => ?_
  · mul_fits
    refine ⟨by show (rgD 0 (m : Int)).length ≤ _; rw [rgD0]; simp; exact le_size (by omega), ?_⟩
    show W (loopQ _ _ (rgD 0 (m : Int)) _) _
    rw [rgD0]
    refine loopQ_m natD (fun i => .str (stS (caps.cps.toList.getD ((start + i * step) % 26) 0 :: (stem.drop 1).take (size - 1)))) (fun S' => S' = d6.st (R1 ++ [Ob.lst [D.int 1, D.int 5]])) (List.range m) (fun i hi S e => ⟨trivial, ?_⟩) (fun S e => ⟨trivial, ?_⟩) _ rfl
    · subst e
      have hi := List.mem_range.mp hi
      mul_fits
      refine v_mul (hmul i (by omega)) ?_
      mul_fits
      have ei : ((start : Int) + (i : Int) * (step : Int)) = ((start + i * step : Nat) : Int) := by simp
      rw [ei]
      mul_fits
      have em : Int.fmod ((start + i * step : Nat) : Int) 26 = (((start + i * step) % 26 : Nat) : Int) := by rw [Int.fmod_eq_emod_of_nonneg _ (by decide)]; omega
      rw [em]
      refine v_idxS (le64 (by decide)) (at_caps (by omega) (by omega)) ?_
      mul_fits
      refine v_slcX (by rw [st_length]; exact le_size (by omega)) ?_
      rw [show (some (1 : Int)) = some ((1 : Nat) : Int) from rfl, cutS_mid _ _ _ (by omega) (by omega)]
      mul_fits
      refine v_addS (le_size (by rw [st_length, List.length_take]; show 1 + _ ≤ _; omega)) ?_
      have en : (⟨#[caps.cps.toList.getD (((start + i * step) % 26 : Nat) : Int).toNat 0]⟩ : Str) ++ stS ((stem.drop 1).take (size - 1)) = stS (caps.cps.toList.getD ((start + i * step) % 26) 0 :: (stem.drop 1).take (size - 1)) := by
        rw [Int.toNat_natCast]
        exact st_append [_] _
      rw [en]
      mul_fits
      exact ⟨rfl, rfl⟩
    subst e
    mul_fits
    have e9 : ((List.range m).map fun i => D.str (stS (caps.cps.toList.getD ((start + i * step) % 26) 0 :: (stem.drop 1).take (size - 1)))) = ((List.range m).map fun i => stS (caps.cps.toList.getD ((start + i * step) % 26) 0 :: (stem.drop 1).take (size - 1))).map D.str := by rw [List.map_map]; rfl
    rw [e9]
    subst e1
    exact titles_fin (d0 := d) (m := m) (l := (List.range m).map fun i => stS (caps.cps.toList.getD ((start + i * step) % 26) 0 :: (stem.drop 1).take (size - 1))) (A := R ++ [Ob.lst [D.int 1, D.int 2, D.int 3, D.int 4, D.int 7, D.int 60]] ++ [Ob.lst [D.int 1, D.int 5]]) (by simp) hm.2 (titC_ok (by omega) z2 hsl hA hstep) h ⟨_, List.append_assoc _ _ _⟩ rfl rfl
  · mul_fits
    refine ⟨by show (rgD 0 (m : Int)).length ≤ _; rw [rgD0]; simp; exact le_size (by omega), ?_⟩
    show W (loopQ _ _ (rgD 0 (m : Int)) _) _
    rw [rgD0]
    refine loopQ_m natD (fun i => .str (stS (stem.take at_ ++ [signs2.cps.toList.getD ((start + i * step) % 63) 0] ++ (stem.drop (at_ + 1)).take (size - (at_ + 1))))) (fun S' => S' = d6.st (R1 ++ [Ob.lst [D.int 1, D.int 5]])) (List.range m) (fun i hi S e => ⟨trivial, ?_⟩) (fun S e => ⟨trivial, ?_⟩) _ rfl
    · subst e
      have hi := List.mem_range.mp hi
      mul_fits
      refine v_slcX (by rw [st_length]; exact le_size (by omega)) ?_
      rw [cutS_to]
      mul_fits
      refine v_mul (hmul i (by omega)) ?_
      mul_fits
      have ei : ((start : Int) + (i : Int) * (step : Int)) = ((start + i * step : Nat) : Int) := by simp
      rw [ei]
      mul_fits
      have em : Int.fmod ((start + i * step : Nat) : Int) 63 = (((start + i * step) % 63 : Nat) : Int) := by rw [Int.fmod_eq_emod_of_nonneg _ (by decide)]; omega
      rw [em]
      refine v_idxS (le64 (by decide)) (at_signs (by omega) (by omega)) ?_
      mul_fits
      refine v_addS (le_size (by rw [st_length, List.length_take]; show _ + 1 ≤ _; omega)) ?_
      mul_fits
      have e7 : ((at_ : Int) + 1) = ((at_ + 1 : Nat) : Int) := by omega
      rw [e7]
      refine v_slcX (by rw [st_length]; exact le_size (by omega)) ?_
      rw [cutS_mid _ _ _ (by omega) (by omega)]
      mul_fits
      have en : stS (stem.take at_) ++ (⟨#[signs2.cps.toList.getD (((start + i * step) % 63 : Nat) : Int).toNat 0]⟩ : Str) = stS (stem.take at_ ++ [signs2.cps.toList.getD ((start + i * step) % 63) 0]) := by
        rw [Int.toNat_natCast]
        exact st_append _ [_]
      rw [en]
      refine v_addS (le_size (by rw [st_length, st_length, List.length_append, List.length_take, List.length_take, List.length_singleton]; omega)) ?_
      rw [st_append]
      mul_fits
      exact ⟨rfl, rfl⟩
    subst e
    mul_fits
    have e9 : ((List.range m).map fun i => D.str (stS (stem.take at_ ++ [signs2.cps.toList.getD ((start + i * step) % 63) 0] ++ (stem.drop (at_ + 1)).take (size - (at_ + 1))))) = ((List.range m).map fun i => stS (stem.take at_ ++ [signs2.cps.toList.getD ((start + i * step) % 63) 0] ++ (stem.drop (at_ + 1)).take (size - (at_ + 1)))).map D.str := by rw [List.map_map]; rfl
    rw [e9]
    subst e1
    exact titles_fin (d0 := d) (m := m) (l := (List.range m).map fun i => stS (stem.take at_ ++ [signs2.cps.toList.getD ((start + i * step) % 63) 0] ++ (stem.drop (at_ + 1)).take (size - (at_ + 1)))) (A := R ++ [Ob.lst [D.int 1, D.int 2, D.int 3, D.int 4, D.int 7, D.int 60]] ++ [Ob.lst [D.int 1, D.int 5]]) (by simp) hm.2 (titD_ok (by omega) z2 hsl hA hstep (by omega)) h ⟨_, List.append_assoc _ _ _⟩ rfl rfl
end
section
variable {k : Nat} {R : Sto} {Q : D → Sto → Prop} {d : DS} {m : Nat}
def abcS : Str := "abcdefghijklmnopqrstuvwxyz"
theorem at_abc {i : Int} (h0 : 0 ≤ i) (h1 : i < 26) : ∃ c < 1114112, atI abcS.cps.toList i = some c := by
  have e : abcS.cps.toList.length = 26 := by decide
  have key : ∀ c ∈ abcS.cps.toList, c < 1114112 := by decide
  refine ⟨abcS.cps.toList[i.toNat]'(by omega), key _ (List.getElem_mem _), ?_⟩
  unfold atI ixN
  rw [if_pos h0, if_pos (by omega)]
  simp only [Option.bind_some]
  rw [List.getElem?_eq_getElem (by omega)]
theorem letter_w (h : ∀ x, Lt x → ∀ d' : DS, Q x (d'.st R)) : W (orc T (k + 2) n__law_letter [.ref 1] (d.st R)) Q := by
  refine orc_w (ρ := [some (.ref 1)]) rfl rfl rfl ?_
  show W (evSs _ b__law_letter _ _) _
  simp only [b__law_letter]
  mul_fits
  refine draw_ (by decide) (by decide) fun u d3 u0 u1 => ?_
  obtain ⟨c, hc, ec⟩ := at_abc u0 u1
  refine v_idxS (le64 (by decide)) ec ?_
  mul_fits
  rw [gc_same (by rfl)]
  exact w_ok (h _ ⟨c, hc, rfl⟩ _)
/-- a row of letters by a comprehension -/
theorem letters2_w {C : Sto → Prop} {f : D → Sto → Res (Option D)} {Q : List D → Sto → Prop} (hf : ∀ (x : D) (d1 : DS) (QQ : Option D → Sto → Prop), (∀ y, Lt y → ∀ d' : DS, QQ (some y) (d'.st R)) → W (f x (d1.st R)) QQ) (hC : ∀ d : DS, C (d.st R)) (h : ∀ (l : List D) (d' : DS), l.length = 2 → (∀ x ∈ l, Lt x) → Q l (d'.st R)) : W (loopQ C f (rgD 0 2) (d.st R)) Q := by
  refine loopQ_w (fun ds r S' => ∃ (d' : DS), S' = d'.st R ∧ (∀ x ∈ r, Lt x) ∧ r.length + ds.length = 2) ?_ ?_ _ _ ⟨d, rfl, by simp, rfl⟩
  · rintro e2 ds2 r2 S2 ⟨d2, rfl, z1, z2⟩
    refine ⟨hC _, hf _ _ _ fun y hy d' => ⟨d', rfl, fun x hx => ?_, by simp at z2 ⊢; omega⟩⟩
    rcases List.mem_append.mp hx with hx | hx
    · exact z1 x hx
    · rw [List.mem_singleton.mp hx]; exact hy
  · rintro r2 S2 ⟨d2, rfl, z1, z2⟩
    exact ⟨hC _, h _ _ (by simpa using z2) z1⟩
structure LdOk (b : Bk) : Prop where
  tt : TtOk (b.nms.map (·.1))
  top : (b.top, 0) ∈ b.nms
  ar : ∀ p ∈ b.nms, p.2 ≤ 3
  rl : ∀ r ∈ b.rls, RlIn b.nms r
  lr : ∀ r ∈ b.rls, (∃ x ∈ b.rls, x.nm = r.nm ∧ x.sl = []) ∧ ∃ x ∈ b.rls, x.nm = r.nm ∧ x.sl.map (·.nm) = [r.nm]
  nz : b.nms.length ≤ 64
  r0 : 0 < b.rls.length
  rz : b.rls.length ≤ 400
def LR (acc : List Rl) (s : Str) : Prop := (∃ x ∈ acc, x.nm = s ∧ x.sl = []) ∧ ∃ x ∈ acc, x.nm = s ∧ x.sl.map (·.nm) = [s]
theorem LR.mono {acc acc' : List Rl} {s : Str} (h : ∀ x ∈ acc, x ∈ acc') (o : LR acc s) : LR acc' s :=
  ⟨let ⟨x, h1, h2⟩ := o.1; ⟨x, h x h1, h2⟩, let ⟨x, h1, h2⟩ := o.2; ⟨x, h x h1, h2⟩⟩
end
section
variable {k : Nat} {R : Sto} {Q : D → Sto → Prop} {d0 : DS} {m : Nat}
theorem RlIn.perm {ps ps' : List (Str × Nat)} (hmem : ∀ p, p ∈ ps' ↔ p ∈ ps) {r : Rl} (this : RlIn ps r) : RlIn ps' r := by
  obtain ⟨x, x1, x2, x3⟩ := this.ex
  exact ⟨⟨x, (hmem _).mpr x1, fun s hs => let ⟨a', u1, u2⟩ := x2 s hs; ⟨a', (hmem _).mpr u1, u2⟩, x3⟩, this.sl, this.ms, this.tl, this.ss, this.mc⟩
/-- what is known of the rows before the last lines -/
structure LdC (n0 : Str) (nr : List Str) (ps : List (Str × Nat)) (acc : List Rl) : Prop where
  tt : TtOk (n0 :: nr)
  pn : ps.map (·.1) = n0 :: nr
  p0 : (n0, 0) ∈ ps
  pa : ∀ p ∈ ps, p.2 ≤ 3
  pz : ps.length ≤ 64
  rl : ∀ x ∈ acc, RlIn ps x
  lr : ∀ x ∈ acc, LR acc x.nm
  r0 : 0 < acc.length
  rz : acc.length ≤ 400
theorem LdC.of {n0 : Str} {nr : List Str} {ps : List (Str × Nat)} {acc acc' : List Rl} (c : LdC n0 nr ps acc) (h : ∀ x, x ∈ acc' ↔ x ∈ acc) (hz : acc'.length ≤ 400) : LdC n0 nr ps acc' :=
  ⟨c.tt, c.pn, c.p0, c.pa, c.pz, fun x hx => c.rl x ((h x).mp hx), fun x hx => (c.lr x ((h x).mp hx)).mono fun y hy => (h y).mpr hy, by
    obtain ⟨y, hy⟩ := List.exists_mem_of_length_pos c.r0
    exact List.length_pos_of_mem ((h y).mpr hy), hz⟩
theorem land_fin5 {ρ : En} {B : Sto} {d' : DS} {bt P l : Nat} {n0 : Str} {nr : List Str} {ps : List (Str × Nat)} {acc : List Rl} (c : LdC n0 nr ps acc) (h : ∀ (b : Bk) (d' : DS), LdOk b → Q b.d (d'.st R))
    (h3 : ρ[3]? = some (some (.ref (bt + 2)))) (h5 : ρ[5]? = some (some (.ref (P + 2)))) (h9 : ρ[9]? = some (some (.ref (l + 2)))) (kT : B[bt]? = some (.lst ((n0 :: nr).map .str))) (kP : B[P]? = some (.lst (ps.map prD))) (kL : B[l]? = some (.lst (acc.map Rl.d))) (hB : ∃ g, B = R ++ g) :
    W (evSs (orc T (k + 5)) b__law_land_5 ρ (d'.st B)) fun fl S1 => W (retK fl S1) fun x S' => W (gc (d0.st R) x S') Q := by
  obtain ⟨g, rfl⟩ := hB
  simp only [b__law_land_5]
  have kT2 : (d'.st (R ++ g))[bt + 2]? = some (.lst ((n0 :: nr).map .str)) := kT
  have kP2 : (d'.st (R ++ g))[P + 2]? = some (.lst (ps.map prD)) := kP
  have kL2 : (d'.st (R ++ g))[l + 2]? = some (.lst (acc.map Rl.d)) := kL
  mul_fits
  refine w_var h3 ?_
  mul_fits
  refine v_idx kT2 (show atI ((n0 :: nr).map D.str) 0 = some (.str n0) from by rw [List.map_cons]; exact at_nat (k := 0) _ (by simp)) ?_
  mul_fits
  refine w_var h5 ?_
  mul_fits
  refine sort_prs fun ps' hp => ?_
  mul_fits
  refine w_var h9 ?_
  mul_fits
  have hmem : ∀ p, p ∈ ps' ↔ p ∈ ps := fun p => hp.mem_iff
  refine gc_st2 ((pd_bk ⟨n0, ps', acc⟩).b _) ?_
  have e1 : (ps'.map (·.1)).Perm (n0 :: nr) := by rw [← c.pn]; exact hp.map _
  exact h ⟨n0, ps', acc⟩ d' ⟨c.tt.perm e1, (hmem _).mpr c.p0, fun p hp => c.pa p ((hmem p).mp hp), fun r hr => (c.rl r hr).perm hmem, c.lr, by show ps'.length ≤ 64; rw [hp.length_eq]; exact c.pz, c.r0, c.rz⟩
theorem mem_rep {α : Type} {l : List α} {n : Nat} (hz : l.length ≤ 400) (x : α) : x ∈ (List.replicate (n + 1) l).flatten.take 400 ↔ x ∈ l := by
  constructor
  · intro h
    obtain ⟨y, h1, h2⟩ := List.mem_flatten.mp (List.mem_of_mem_take h)
    rw [List.eq_of_mem_replicate h1] at h2
    exact h2
  · intro h
    rw [List.replicate_succ, List.flatten_cons, List.take_append, List.take_of_length_le hz]
    exact List.mem_append_left _ h
theorem land_fin4 {ρ : En} {B : Sto} {d' : DS} {bt P l : Nat} {scale : Int} {n0 : Str} {nr : List Str} {ps : List (Str × Nat)} {acc : List Rl} (c : LdC n0 nr ps acc) (h : ∀ (b : Bk) (d' : DS), LdOk b → Q b.d (d'.st R))
    (hl : ρ.length = 16) (h0 : ρ[0]? = some (some (.ref 1))) (h1 : ρ[1]? = some (some (.int scale))) (h3 : ρ[3]? = some (some (.ref (bt + 2)))) (h5 : ρ[5]? = some (some (.ref (P + 2)))) (h9 : ρ[9]? = some (some (.ref (l + 2)))) (kT : B[bt]? = some (.lst ((n0 :: nr).map .str))) (kP : B[P]? = some (.lst (ps.map prD))) (kL : B[l]? = some (.lst (acc.map Rl.d))) (hB : ∃ g, B = R ++ g) :
    W (evSs (orc T (k + 5)) b__law_land_4 ρ (d'.st B)) fun fl S1 => W (retK fl S1) fun x S' => W (gc (d0.st R) x S') Q := by
  simp only [b__law_land_4]
  mul_fits
  refine w_var h0 ?_
  mul_fits
  refine w_var h9 ?_
  mul_fits
  refine shuffled_w (b := l) (row := acc.map Rl.d) (by rw [List.length_map]; have := c.rz; omega) kL fun got g3 d3 hg => ?_
  obtain ⟨acc', hq, rfl⟩ := perm_of_map hg
  have c' : LdC n0 nr ps acc' := c.of (fun x => hq.mem_iff) (by rw [hq.length_eq]; exact c.rz)
  have gg := get_g (R := B) (d := d3) (g := g3) (o := .lst (acc'.map Rl.d))
  have hB' : ∃ g, B ++ (g3 ++ [Ob.lst (acc'.map Rl.d)]) = R ++ g := by
    obtain ⟨g, rfl⟩ := hB
    exact ⟨_, List.append_assoc _ _ _⟩
  have kT' : (B ++ (g3 ++ [Ob.lst (acc'.map Rl.d)]))[bt]? = _ := get_pre kT
  have kP' : (B ++ (g3 ++ [Ob.lst (acc'.map Rl.d)]))[P]? = _ := get_pre kP
  have kL' : (B ++ (g3 ++ [Ob.lst (acc'.map Rl.d)]))[B.length + g3.length]? = some (.lst (acc'.map Rl.d)) := gg
  generalize B ++ (g3 ++ [Ob.lst (acc'.map Rl.d)]) = B' at hB' kT' kP' kL' gg ⊢
  generalize hl' : B.length + g3.length = l' at kL' gg ⊢
  have g9 : (ρ.set 9 (some (D.ref (l' + 2))))[9]? = some (some (.ref (l' + 2))) := by rw [List.getElem?_set_self (by omega)]
  have g3' : (ρ.set 9 (some (D.ref (l' + 2))))[3]? = _ := (List.getElem?_set_ne (by decide)).trans h3
  have g5 : (ρ.set 9 (some (D.ref (l' + 2))))[5]? = _ := (List.getElem?_set_ne (by decide)).trans h5
  have g1 : (ρ.set 9 (some (D.ref (l' + 2))))[1]? = _ := (List.getElem?_set_ne (by decide)).trans h1
  mul_fits
  refine w_var g1 ?_
  mul_fits
  refine w_ifd (fun hs => ?_) fun hs => ?_
  · mul_fits
    refine w_var g9 ?_
    mul_fits
    refine w_var g9 ?_
    mul_fits
    rw [List.length_map]
    have r0 := c'.r0
    have rz := c'.rz
    refine v_fdiv ⟨by omega, PyProof.noPylong_small (by omega)⟩ ?_
    mul_fits
    have eq0 : Int.fdiv 400 (acc'.length : Int) = ((400 / acc'.length : Nat) : Int) := by
      rw [Int.fdiv_eq_ediv_of_nonneg _ (by omega)]
      exact (Int.natCast_ediv 400 _).symm
    rw [eq0]
    have hq : acc'.length * (400 / acc'.length + 1) ≤ 800 := by
      have := Nat.mul_div_le 400 acc'.length
      rw [Nat.mul_add]
      omega
    have hq2 : 400 / acc'.length ≤ 400 := Nat.div_le_self _ _
    generalize 400 / acc'.length = q at hq hq2 ⊢
    have eq : (q : Int) + 1 = ((q + 1 : Nat) : Int) := by omega
    rw [eq]
    refine v_mulL (S := d3.st B') kL' ⟨by omega, by omega, by rw [Int.toNat_natCast, List.length_map]; exact le_size (by omega)⟩ ?_
    rw [Int.toNat_natCast]
    mul_fits
    simp only [st_len, st_app]
    refine v_slc (S := d3.st (B' ++ [Ob.lst (List.replicate (q + 1) (acc'.map Rl.d)).flatten])) (a := B'.length + 2) (get_end _ _) ?_
    rw [show (some (400 : Int)) = some ((400 : Nat) : Int) from rfl, cut_take]
    mul_fits
    have em : ((List.replicate (q + 1) (acc'.map Rl.d)).flatten).take 400 = (((List.replicate (q + 1) acc').flatten).take 400).map Rl.d := by
      rw [List.map_take, List.map_flatten, List.map_replicate]
    rw [em]
    obtain ⟨g, hg⟩ := hB'
    refine land_fin5 (bt := bt) (P := P) (l := (B' ++ [Ob.lst (List.replicate (q + 1) (acc'.map Rl.d)).flatten]).length) (d' := d3) (c'.of (fun x => mem_rep (n := q) rz x) (by rw [List.length_take]; omega)) h ?_ ?_ ?_ (get_pre (get_pre kT')) (get_pre (get_pre kP')) ?_ ⟨_, by rw [hg, List.append_assoc]; exact List.append_assoc R _ _⟩
    · exact (List.getElem?_set_ne (by decide)).trans g3'
    · exact (List.getElem?_set_ne (by decide)).trans g5
    · rw [List.getElem?_set_self (by rw [List.length_set]; omega)]
      rfl
    · exact get_end _ _
  · mul_fits
    exact land_fin5 c' h g3' g5 g9 kT' kP' kL' hB'
end
section
variable {k : Nat} {R : Sto} {Q : D → Sto → Prop} {d d0 : DS} {m : Nat}
/-- the rows' state in the walks -/
structure LdI (ps : List (Str × Nat)) (bare : Str) (acc : List Rl) : Prop where
  rl : ∀ x ∈ acc, RlIn ps x
  nb : ∀ x ∈ acc, x.nm ≠ bare
def ldE (scale : Int) (m : Nat) (bt P b6 b7 l : Nat) (bare : Str) (big : Bool) (o10 o11 o12 o13 : Option D) : En :=
  [some (.ref 1), some (.int scale), some (natD m), some (.ref (bt + 2)), some (.str bare), some (.ref (P + 2)), some (.ref (b6 + 2)), some (.ref (b7 + 2)), some (.bl big), some (.ref (l + 2)), o10, o11, o12, o13, none, none]
theorem LdI.add {ps : List (Str × Nat)} {bare : Str} {acc : List Rl} {x : Rl} (i : LdI ps bare acc) (h1 : RlIn ps x) (h2 : x.nm ≠ bare) : LdI ps bare (acc ++ [x]) := by
  refine ⟨fun y hy => ?_, fun y hy => ?_⟩
  · rcases List.mem_append.mp hy with hy | hy
    · exact i.rl y hy
    · rw [List.mem_singleton.mp hy]; exact h1
  · rcases List.mem_append.mp hy with hy | hy
    · exact i.nb y hy
    · rw [List.mem_singleton.mp hy]; exact h2
/-- one pair's two rules -/
theorem land1_w {A g : Sto} {acc : List Rl} {scale : Int} {bt P b6 b7 : Nat} {bare : Str} {big : Bool} {o11 o12 o13 : Option D} {ps : List (Str × Nat)} {p : Str × Nat} (hp : p ∈ ps) (ha : p.2 ≤ 3) (hm : Row A b6) (hs : Row A b7) (hz : acc.length ≤ 1000) (i : LdI ps bare acc)
    {QQ : Fl → Sto → Prop} (h : ∀ (acc' : List Rl) (g' : Sto) (d' : DS) (o : Option D), LdI ps bare acc' → (∀ x ∈ acc, x ∈ acc') → acc'.length ≤ acc.length + 2 → (p.1 ≠ bare → LR acc' p.1) → QQ (.nx (ldE scale m bt P b6 b7 A.length bare big (some (prD p)) o o12 o13)) (d'.st (A ++ [.lst (acc'.map Rl.d)] ++ g'))) :
    W (evSs (orc T (k + 5)) b__law_land_1 (ldE scale m bt P b6 b7 A.length bare big (some (prD p)) o11 o12 o13) (d.st (A ++ [.lst (acc.map Rl.d)] ++ g))) QQ := by
  unfold ldE at *
  simp only [b__law_land_1]
  have kL : ∀ (d : DS) (l : List D) (g2 : Sto), (d.st (A ++ [Ob.lst l] ++ g2))[A.length + 2]? = some (.lst l) := fun d l g2 => st_mid
  have hm := fun (l : List D) => hm.pre (g := [Ob.lst l])
  have hs := fun (l : List D) => hs.pre (g := [Ob.lst l])
  mul_fits
  refine w_if (fun c => ?_) fun c => ?_
  rotate_left
  · mul_fits
    exact h acc g d o11 i (fun x hx => hx) (by omega) fun z => absurd z (by simpa using c)
  have hb : p.1 ≠ bare := by simpa using c
  mul_fits
  refine W_mono (Q := fun x S => ∃ (inner : Nat) (d' : DS), inner ≤ 6 ∧ x = natD inner ∧ S = d'.st (A ++ [Ob.lst (acc.map Rl.d)] ++ g)) ?_ fun x S ⟨inner, d1, hi, e1, e2⟩ => ?_
  · cases big with
    | true =>
      rw [if_pos rfl]
      mul_fits
      exact ⟨6 - p.2, _, by omega, by show D.int _ = D.int _; congr 1; omega, rfl⟩
    | false =>
      rw [if_neg (by simp)]
      mul_fits
      refine draw_ (by decide) (by decide) fun y d3 y0 y1 => ?_
      obtain ⟨y, rfl⟩ := Int.eq_ofNat_of_zero_le y0
      exact ⟨y, d3, by omega, rfl, rfl⟩
  subst e1 e2
  mul_fits
  refine w_withL (kL _ _ _) ?_
  mul_fits
  simp only [st_len, st_app]
  refine W_mono (Q := fun x S => ∃ t : Nat, 0 < t ∧ t ≤ 13 ∧ x = natD t ∧ S = d1.st (A ++ [Ob.lst (acc.map Rl.d)] ++ g ++ [Ob.lst []])) ?_ fun x S ⟨t, t0, t1, e1, e2⟩ => ?_
  · cases big with
    | true =>
      rw [if_pos rfl]
      mul_fits
      exact ⟨13, by omega, by omega, rfl, rfl⟩
    | false =>
      rw [if_neg (by simp)]
      mul_fits
      exact ⟨3, by omega, by omega, rfl, rfl⟩
  subst e1 e2
  mul_fits
  refine draw_ (by omega) (by omega) fun z d4 z0 z1 => ?_
  obtain ⟨z, rfl⟩ := Int.eq_ofNat_of_zero_le z0
  mul_fits
  refine rule_w (nm := p.1) (ar := p.2) (inner := inner) (t := z) (bs := (A ++ [Ob.lst (acc.map Rl.d)] ++ g).length) (used := []) ha (by omega) (by omega) (by simp; try exact ha) (by simp) (get_end _ _) (hm _).pre.pre (hs _).pre.pre fun x d5 hx => ?_
  try simp only [List.append_eq]
  rw [List.append_assoc (A ++ [Ob.lst (acc.map Rl.d)])]
  mul_fits
  refine v_app (kL _ _ _) (le_size (by simp only [List.length_map, List.length_append, List.length_singleton]; omega)) ?_
  rw [st_set_mid]
  have xi := rlIn_of hx (by omega) hp (by simp; try exact hp) (by simp)
  have i1 := i.add xi (by rw [hx.nm]; exact hb)
  have f1 : x.nm = p.1 ∧ x.sl = [] := ⟨hx.nm, List.eq_nil_of_length_eq_zero hx.sl.len⟩
  clear hx xi
  generalize g ++ [Ob.lst []] = G1
  have em : acc.map Rl.d ++ [x.d] = (acc ++ [x]).map Rl.d := by rw [List.map_append]; rfl
  rw [em]
  clear em
  rename Rl => x1
  clear z1 z0 t0 t1 hi
  mul_fits
  refine W_mono (Q := fun x S => ∃ (inner : Nat) (d' : DS), inner ≤ 6 ∧ x = natD inner ∧ S = d'.st (A ++ [Ob.lst ((acc ++ [x1]).map Rl.d)] ++ G1)) ?_ fun x S ⟨inner, d1, hi, e1, e2⟩ => ?_
  · cases big with
    | true =>
      rw [if_pos rfl]
      mul_fits
      exact ⟨6 - p.2, _, by omega, by show D.int _ = D.int _; congr 1; omega, rfl⟩
    | false =>
      rw [if_neg (by simp)]
      mul_fits
      refine draw_ (by decide) (by decide) fun y d3 y0 y1 => ?_
      obtain ⟨y, rfl⟩ := Int.eq_ofNat_of_zero_le y0
      exact ⟨y, d3, by omega, rfl, rfl⟩
  subst e1 e2
  mul_fits
  refine w_withL (kL _ _ _) ?_
  mul_fits
  simp only [st_len, st_app]
  refine W_mono (Q := fun x S => ∃ t : Nat, 0 < t ∧ t ≤ 13 ∧ x = natD t ∧ S = d1.st (A ++ [Ob.lst ((acc ++ [x1]).map Rl.d)] ++ G1 ++ [Ob.lst [prD p]])) ?_ fun x S ⟨t, t0, t1, e1, e2⟩ => ?_
  · cases big with
    | true =>
      rw [if_pos rfl]
      mul_fits
      exact ⟨13, by omega, by omega, rfl, rfl⟩
    | false =>
      rw [if_neg (by simp)]
      mul_fits
      exact ⟨3, by omega, by omega, rfl, rfl⟩
  subst e1 e2
  mul_fits
  refine draw_ (by omega) (by omega) fun z d4 z0 z1 => ?_
  obtain ⟨z, rfl⟩ := Int.eq_ofNat_of_zero_le z0
  mul_fits
  refine rule_w (nm := p.1) (ar := p.2) (inner := inner) (t := z) (bs := (A ++ [Ob.lst ((acc ++ [x1]).map Rl.d)] ++ G1).length) (used := [p]) ha (by omega) (by omega) (by simp; try exact ha) (by simp) (get_end _ _) (hm _).pre.pre (hs _).pre.pre fun x d5 hx => ?_
  try simp only [List.append_eq]
  rw [List.append_assoc (A ++ [Ob.lst ((acc ++ [x1]).map Rl.d)])]
  mul_fits
  refine v_app (kL _ _ _) (le_size (by simp only [List.length_map, List.length_append, List.length_singleton]; omega)) ?_
  rw [st_set_mid]
  have xi := rlIn_of hx (by omega) hp (by simp; try exact hp) (by simp)
  have i2 := i1.add xi (by rw [hx.nm]; exact hb)
  have f2 : x.nm = p.1 ∧ x.sl.map (·.nm) = [p.1] := ⟨hx.nm, All2.map (f := fun q : Str × Nat => q.1) (g := fun z : Sl => z.nm) (hx.sl.imp fun _ _ z => z.1)⟩
  have em : (acc ++ [x1]).map Rl.d ++ [x.d] = (acc ++ [x1] ++ [x]).map Rl.d := by rw [List.map_append (l₂ := [x])]; rfl
  rw [em]
  mul_fits
  exact h (acc ++ [x1] ++ [x]) _ d5 _ i2 (fun y hy => by simp [hy]) (by simp) fun _ => ⟨⟨x1, by simp, f1⟩, ⟨x, by simp, f2⟩⟩
end
section
variable {k : Nat} {R : Sto} {Q : D → Sto → Prop} {d d0 : DS} {m : Nat}
theorem land3_w {A g : Sto} {acc : List Rl} {scale : Int} {bt P b6 b7 : Nat} {bare : Str} {big : Bool} {o10 o11 o13 : Option D} {j : Nat} {ps : List (Str × Nat)} (h0 : 0 < ps.length) (hz0 : ps.length ≤ 64) (kP : A[P]? = some (.lst (ps.map prD))) (ha : ∀ p ∈ ps, p.2 ≤ 3) (hm : Row A b6) (hs : Row A b7) (hz : acc.length ≤ 1000) (i : LdI ps bare acc)
    {QQ : Fl → Sto → Prop} (h : ∀ (acc' : List Rl) (g' : Sto) (d' : DS) (o o' : Option D), LdI ps bare acc' → (∀ x ∈ acc, x ∈ acc') → acc'.length ≤ acc.length + 1 → QQ (.nx (ldE scale m bt P b6 b7 A.length bare big o o11 (some (natD j)) o')) (d'.st (A ++ [.lst (acc'.map Rl.d)] ++ g'))) :
    W (evSs (orc T (k + 5)) b__law_land_3 (ldE scale m bt P b6 b7 A.length bare big o10 o11 (some (natD j)) o13) (d.st (A ++ [.lst (acc.map Rl.d)] ++ g))) QQ := by
  unfold ldE at *
  simp only [b__law_land_3]
  have kL : ∀ (d : DS) (l : List D) (g2 : Sto), (d.st (A ++ [Ob.lst l] ++ g2))[A.length + 2]? = some (.lst l) := fun d l g2 => st_mid
  have kP1 : ∀ (l : List D) (g2 : Sto), (A ++ [Ob.lst l] ++ g2)[P]? = some (.lst (ps.map prD)) := fun l g2 => get_pre (get_pre kP)
  have kP2 : ∀ (d : DS) (l : List D) (g2 : Sto), (d.st (A ++ [Ob.lst l] ++ g2))[P + 2]? = some (.lst (ps.map prD)) := fun d l g2 => kP1 l g2
  have hm := fun (l : List D) => hm.pre (g := [Ob.lst l])
  have hs := fun (l : List D) => hs.pre (g := [Ob.lst l])
  have hl1 : 0 < (ps.map prD).length := by rw [List.length_map]; exact h0
  have hl2 : (ps.map prD).length < 1000 := by rw [List.length_map]; omega
  mul_fits
  refine W_mono (Q := fun x S => ∃ (p : Str × Nat) (d' : DS), p ∈ ps ∧ x = prD p ∧ S = d'.st (A ++ [Ob.lst (acc.map Rl.d)] ++ g)) ?_ fun x S ⟨p, d1, hp, e1, e2⟩ => ?_
  · refine w_ifd (fun c => ?_) fun c => ?_
    · mul_fits
      refine v_idx (kP2 _ _ _) (at_nat (k := 0) _ hl1) ?_
      rw [List.getElem_map]
      exact ⟨_, d, List.getElem_mem _, rfl, rfl⟩
    · mul_fits
      refine pick_w (b := P) hl1 hl2 (kP1 _ _) fun x hx d1 => ?_
      obtain ⟨p, hp, rfl⟩ := List.mem_map.mp hx
      exact ⟨p, d1, hp, rfl, rfl⟩
  subst e1 e2
  mul_fits
  refine draw_ (by decide) (by decide) fun y d2 y0 y1 => ?_
  obtain ⟨y, rfl⟩ := Int.eq_ofNat_of_zero_le y0
  mul_fits
  have e1 : (1 : Int) + (y : Int) = ((1 + y : Nat) : Int) := by omega
  rw [e1]
  refine ⟨by show (rgD 0 ((1 + y : Nat) : Int)).length ≤ _; rw [rgD0]; simp; exact le_size (by omega), ?_⟩
  refine loopQ_w (fun ds r S' => ∃ (us : List (Str × Nat)) (d' : DS), r = us.map prD ∧ S' = d'.st (A ++ [Ob.lst (acc.map Rl.d)] ++ g) ∧ (∀ p ∈ us, p ∈ ps) ∧ us.length + ds.length = 1 + y) ?_ ?_ _ _ ⟨[], d2, rfl, rfl, by simp, by show 0 + (rgD 0 ((1 + y : Nat) : Int)).length = _; rw [rgD0]; simp⟩
  · rintro e2 ds2 r2 S2 ⟨us, d3, rfl, rfl, z1, z2⟩
    refine ⟨trivial, ?_⟩
    mul_fits
    refine pick_w (b := P) hl1 hl2 (kP1 _ _) fun x hx d1 => ?_
    obtain ⟨q, hq, rfl⟩ := List.mem_map.mp hx
    mul_fits
    refine ⟨us ++ [q], d1, by simp, rfl, fun x hx => ?_, by simp at z2 ⊢; omega⟩
    rcases List.mem_append.mp hx with hx | hx
    · exact z1 x hx
    · rw [List.mem_singleton.mp hx]; exact hq
  rintro r2 S2 ⟨us, d3, rfl, rfl, z1, z2⟩
  have z2 : us.length = 1 + y := by simpa using z2
  refine ⟨trivial, ?_⟩
  mul_fits
  simp only [st_len, st_app]
  have kU : (A ++ [Ob.lst (acc.map Rl.d)] ++ (g ++ [Ob.lst (us.map prD)]))[(A ++ [Ob.lst (acc.map Rl.d)] ++ g).length]? = some (.lst (us.map prD)) := by
    rw [← List.append_assoc]
    exact get_end _ _
  rw [List.append_assoc (A ++ [Ob.lst (acc.map Rl.d)])]
  generalize (A ++ [Ob.lst (acc.map Rl.d)] ++ g).length = bs at kU ⊢
  generalize g ++ [Ob.lst (us.map prD)] = G1 at kU ⊢
  refine w_if (fun c => ?_) fun c => ?_
  rotate_left
  · mul_fits
    exact h acc _ d3 _ _ i (fun x hx => hx) (by omega)
  have hb : p.1 ≠ bare := by simpa using c
  mul_fits
  refine w_withL (kL _ _ _) ?_
  mul_fits
  refine draw_ (by decide) (by decide) fun v d4 v0 v1 => ?_
  obtain ⟨v, rfl⟩ := Int.eq_ofNat_of_zero_le v0
  mul_fits
  refine draw_ (by decide) (by decide) fun z d5 q0 q1 => ?_
  obtain ⟨z, rfl⟩ := Int.eq_ofNat_of_zero_le q0
  mul_fits
  refine rule_w (nm := p.1) (ar := p.2) (inner := v) (t := z) (bs := bs) (used := us) (ha p hp) (by omega) (by omega) (fun q hq => ha q (z1 q hq)) (by omega) kU (hm _).pre (hs _).pre fun x d6 hx => ?_
  mul_fits
  refine v_app (kL _ _ _) (le_size (by rw [List.length_map]; omega)) ?_
  rw [st_set_mid]
  have xi := rlIn_of hx (by omega) hp z1 (by omega)
  have em : acc.map Rl.d ++ [x.d] = (acc ++ [x]).map Rl.d := by rw [List.map_append]; rfl
  rw [em]
  mul_fits
  exact h (acc ++ [x]) _ d6 _ _ (i.add xi (by rw [hx.nm]; exact hb)) (fun y hy => by simp [hy]) (by simp)
end
section
variable {k : Nat} {R : Sto} {Q : D → Sto → Prop} {d d0 : DS} {m : Nat}
/-- the two walks over the rows, and the end -/
theorem land_rows {A : Sto} {scale : Int} {bt P b6 b7 : Nat} {bare n0 : Str} {nr : List Str} {big : Bool} {ps : List (Str × Nat)} (tt : TtOk (n0 :: nr)) (pn : ps.map (·.1) = n0 :: nr) (p0 : (n0, 0) ∈ ps) (pa : ∀ p ∈ ps, p.2 ≤ 3) (pz : ps.length ≤ 64) (hb : n0 ≠ bare)
    (kT : A[bt]? = some (.lst ((n0 :: nr).map .str))) (kP : A[P]? = some (.lst (ps.map prD))) (hm : Row A b6) (hs : Row A b7) (hA : ∃ g, A = R ++ g) (h : ∀ (b : Bk) (d' : DS), LdOk b → Q b.d (d'.st R)) :
    W (may (itOf (RV.val (D.ref (P + 2))) (d.st (A ++ [Ob.lst []]))) fun t => Res.ok t (d.st (A ++ [Ob.lst []]))) fun t S1 => W (loopS t.still (fun d ρ1 S2 => may (bindN (CN.nm 10) d ρ1 S2) fun ρ2 => evSs (orc T (k + 5)) b__law_land_1 ρ2 S2) t.items (ldE scale m bt P b6 b7 A.length bare big none none none none) S1) fun fl S1 => W (seqK (orc T (k + 5)) b__law_land_2 fl S1) fun fl S1 => W (retK fl S1) fun x S' => W (gc (d0.st R) x S') Q := by
  have kP2 : ∀ (d : DS) (l : List D) (g2 : Sto), (d.st (A ++ [Ob.lst l] ++ g2))[P + 2]? = some (.lst (ps.map prD)) := fun d l g2 => get_pre (get_pre kP)
  have kP3 : (d.st (A ++ [Ob.lst []]))[P + 2]? = some (.lst (ps.map prD)) := get_pre kP
  have hps : 0 < ps.length := List.length_pos_of_mem p0
  mul_fits
  refine loopS_e prD (fun r ρ S => ∃ (acc : List Rl) (g2 : Sto) (o10 o11 : Option D) (d' : DS), S = d'.st (A ++ [.lst (acc.map Rl.d)] ++ g2) ∧ ρ = ldE scale m bt P b6 b7 A.length bare big o10 o11 none none ∧ LdI ps bare acc ∧ acc.length + 2 * r.length ≤ 2 * ps.length ∧ (∀ p ∈ r, p ∈ ps) ∧ ∀ p ∈ ps, p.1 ≠ bare → p ∈ r ∨ LR acc p.1) ?_ ?_ ps _ _ ⟨[], [], none, none, d, by simp, rfl, ⟨by simp, by simp⟩, by simp, fun p hp => hp, fun p hp _ => .inl hp⟩
  · rintro p r ρ S ⟨acc, g2, o10, o11, d', rfl, rfl, i, a2, a3, a4⟩
    refine ⟨kP2 d' _ _, ?_⟩
    rw [List.length_cons] at a2
    refine w_may (show bindN (.nm 10) (prD p) _ _ = some (ldE scale m bt P b6 b7 A.length bare big (some (prD p)) o11 none none) from rfl) ?_
    refine land1_w (a3 p (by simp)) (pa p (a3 p (by simp))) hm hs (by omega) i fun acc' g' d2 o i' sub hl lr => ?_
    refine ⟨_, .inl rfl, acc', g', _, _, d2, rfl, rfl, i', by omega, fun q hq => a3 q (by simp [hq]), fun q hq hn => ?_⟩
    rcases a4 q hq hn with z | z
    · rcases List.mem_cons.mp z with rfl | z
      · exact .inr (lr hn)
      · exact .inl z
    · exact .inr (z.mono sub)
  rintro ρ S ⟨acc, g2, o10, o11, d', rfl, rfl, i, a2, a3, a4⟩
  refine ⟨kP2 d' _ _, ?_⟩
  have a4 : ∀ p ∈ ps, p.1 ≠ bare → LR acc p.1 := fun p hp hn => (a4 p hp hn).resolve_left (by simp)
  have a2 : acc.length ≤ 128 := by
    have : acc.length ≤ 2 * ps.length := by simpa using a2
    omega
  mul_fits
  simp only [b__law_land_2]
  mul_fits
  refine draw_ (by decide) (by decide) fun y d2 y0 y1 => ?_
  obtain ⟨y, rfl⟩ := Int.eq_ofNat_of_zero_le y0
  mul_fits
  have e1 : (1 : Int) + (y : Int) = ((1 + y : Nat) : Int) := by omega
  rw [e1]
  show W (loopS _ _ (rgD 0 ((1 + y : Nat) : Int)) _ _) _
  rw [rgD0]
  refine loopS_e natD (fun r ρ S => ∃ (acc' : List Rl) (g2 : Sto) (o10 o12 o13 : Option D) (d' : DS), S = d'.st (A ++ [.lst (acc'.map Rl.d)] ++ g2) ∧ ρ = ldE scale m bt P b6 b7 A.length bare big o10 o11 o12 o13 ∧ LdI ps bare acc' ∧ acc'.length + r.length ≤ acc.length + 1 + y ∧ (∀ x ∈ acc, x ∈ acc')) ?_ ?_ (List.range (1 + y)) _ _ ⟨acc, g2, o10, none, none, d2, rfl, rfl, i, by simp; omega, fun x hx => hx⟩
  · rintro j r ρ S ⟨acc', g2, o10, o12, o13, d', rfl, rfl, i, c1, c2⟩
    refine ⟨trivial, ?_⟩
    rw [List.length_cons] at c1
    refine w_may (show bindN (.nm 12) (natD j) _ _ = some (ldE scale m bt P b6 b7 A.length bare big o10 o11 (some (natD j)) o13) from rfl) ?_
    refine land3_w hps pz kP pa hm hs (by omega) i fun acc2 g' d2 o o' i' sub hl => ?_
    exact ⟨_, .inl rfl, acc2, g', _, _, _, d2, rfl, rfl, i', by omega, fun x hx => sub x (c2 x hx)⟩
  rintro ρ S ⟨acc', g2, o10, o12, o13, d', rfl, rfl, i, c1, c2⟩
  refine ⟨trivial, ?_⟩
  mul_fits
  have a5 : ∀ p ∈ ps, p.1 ≠ bare → LR acc' p.1 := fun p hp hn => (a4 p hp hn).mono c2
  have c1 : acc'.length ≤ acc.length + 1 + y := by simpa using c1
  refine land_fin4 (l := A.length) ⟨tt, pn, p0, pa, pz, i.rl, fun x hx => ?_, ?_, by omega⟩ h rfl rfl rfl rfl rfl rfl (get_pre (get_pre kT)) (get_pre (get_pre kP)) (get_mid _ _ _) ?_
  · obtain ⟨a, q1, _⟩ := (i.rl x hx).ex
    exact a5 _ q1 (i.nb x hx)
  · obtain ⟨⟨x, hx, _⟩, _⟩ := a5 _ p0 hb
    exact List.length_pos_of_mem hx
  · obtain ⟨g, rfl⟩ := hA
    exact ⟨_, by rw [List.append_assoc, List.append_assoc]⟩
end
section
variable {k : Nat} {R : Sto} {Q : D → Sto → Prop} {d d0 : DS} {m : Nat}
theorem land_w (h : ∀ (b : Bk) (d' : DS), LdOk b → Q b.d (d'.st R)) : W (orc T (k + 6) n__law_land [.ref 1] (d.st R)) Q := by
  refine orc_w (ρ := [some (.ref 1), none, none, none, none, none, none, none, none, none, none, none, none, none, none, none]) rfl rfl rfl ?_
  show W (evSs _ b__law_land _ _) _
  simp only [b__law_land]
  mul_fits
  refine draw_ (by decide) (by decide) fun scale d1 y0 y1 => ?_
  mul_fits
  refine W_mono (Q := fun x S => ∃ (m : Nat) (d' : DS), 1 ≤ m ∧ m ≤ 64 ∧ x = natD m ∧ S = d'.st R) ?_ fun x S ⟨m, d2, m1, m2, e1, e2⟩ => ?_
  · refine w_ifd (fun c => ?_) fun c => ?_
    · mul_fits
      exact ⟨64, d1, by omega, by omega, rfl, rfl⟩
    · mul_fits
      refine draw_ (by decide) (by decide) fun y d2 z0 z1 => ?_
      obtain ⟨y, rfl⟩ := Int.eq_ofNat_of_zero_le z0
      mul_fits
      exact ⟨1 + y, d2, by omega, by omega, by show D.int _ = D.int _; congr 1, rfl⟩
  subst e1 e2
  mul_fits
  refine titles_w ⟨m1, m2⟩ (by omega) fun ns bt g d3 hl tt hb1 hb2 => ?_
  obtain ⟨n0, nr, rfl⟩ : ∃ n0 nr, ns = n0 :: nr := by
    cases ns with
    | nil => simp at hl; omega
    | cons a r => exact ⟨a, r, rfl⟩
  have kT : ∀ d : DS, (d.st (R ++ g))[bt + 2]? = some (.lst ((n0 :: nr).map .str)) := fun d => hb2
  have h : ∀ (b : Bk) (d' : DS), LdOk b → Q b.d (d'.st R) := h
  mul_fits
  refine W_mono (Q := fun (x : Bool) S => ∃ (d' : DS), S = d'.st (R ++ g) ∧ (x = true → 2 ≤ m)) ?_ fun x S ⟨d4, e1, hx⟩ => ?_
  · refine w_ifd (fun c => ?_) fun c => ?_
    · mul_fits
      refine draw_ (by decide) (by decide) fun y d4 z0 z1 => ?_
      mul_fits
      exact fun _ => by omega
    · exact w_ok ⟨d3, rfl, fun z => nomatch z⟩
  subst e1
  refine W_mono (Q := fun x S => ∃ (bare : Str), n0 ≠ bare ∧ x = D.str bare ∧ S = d4.st (R ++ g)) ?_ fun x S ⟨bare, hnb, e1, e2⟩ => ?_
  · refine w_if (fun c => ?_) fun c => ?_
    · have hx := hx c
      mul_fits
      have e1 : (m : Int) - 1 = ((m - 1 : Nat) : Int) := by omega
      rw [e1]
      have hm1 : m - 1 < ((n0 :: nr).map D.str).length := by rw [List.length_map, hl]; omega
      refine v_idx (kT _) (at_nat (k := m - 1) _ hm1) ?_
      rw [List.getElem_map]
      refine ⟨(n0 :: nr)[m - 1]'(by rw [hl]; omega), fun e => ?_, rfl, rfl⟩
      have hnd := tt.nd
      have : (n0 :: nr)[0]'(by simp) = (n0 :: nr)[m - 1]'(by rw [hl]; omega) := e
      have := (List.getElem_inj hnd).mp this
      omega
    · mul_fits
      refine ⟨"", fun e => ?_, rfl, rfl⟩
      exact tt.ne n0 (by simp) (by rw [e]; rfl)
  subst e1 e2
  mul_fits
  refine ⟨by show ((n0 :: nr).map D.str).length ≤ _; rw [List.length_map, hl]; exact le_size (by omega), ?_⟩
  refine loopQ_e D.str prD (fun (s : Str) (p : Str × Nat) => p.1 = s ∧ p.2 ≤ 3 ∧ (s = n0 → p.2 = 0)) (fun S => ∃ d' : DS, S = d'.st (R ++ g)) (n0 :: nr) (fun p hp S e => ?_) (fun ps S a e => ?_) _ ⟨d4, rfl⟩
  · obtain ⟨d', rfl⟩ := e
    refine ⟨kT d', ?_⟩
    mul_fits
    refine v_idx (kT d') (show atI ((n0 :: nr).map D.str) 0 = some (.str n0) from by rw [List.map_cons]; exact at_nat (k := 0) _ (by simp)) ?_
    mul_fits
    refine w_ifd (fun c => ?_) fun c => ?_
    · mul_fits
      exact ⟨(p, 0), rfl, ⟨d', rfl⟩, rfl, by omega, fun _ => rfl⟩
    · mul_fits
      refine draw_ (by omega) (by omega) fun y d2 y0 y1 => ?_
      obtain ⟨y, rfl⟩ := Int.eq_ofNat_of_zero_le y0
      mul_fits
      exact ⟨(p, y), rfl, ⟨d2, rfl⟩, rfl, by omega, fun z => absurd z c⟩
  obtain ⟨d5, rfl⟩ := e
  refine ⟨kT d5, ?_⟩
  have pn : ps.map (·.1) = n0 :: nr := by
    have := All2.map (f := fun s : Str => s) (g := fun p : Str × Nat => p.1) (a.imp fun _ _ z => z.1)
    rw [this, List.map_id']
  have pa : ∀ p ∈ ps, p.2 ≤ 3 := fun p hp => by
    obtain ⟨s, _, _, z, _⟩ := a.mem p hp
    exact z
  have pl : ps.length = m := by rw [← hl, ← pn, List.length_map]
  have p0 : (n0, 0) ∈ ps := by
    cases ps with
    | nil => simp at pn
    | cons p ps =>
      have e1 : p.1 = n0 := a.1.1
      have e2 : p.2 = 0 := a.1.2.2 rfl
      have : p = (n0, 0) := by cases p; cases e1; cases e2; rfl
      rw [this]
      simp
  mul_fits
  simp only [st_len, st_app]
  refine ⟨le_size (by decide), ?_⟩
  refine letters2_w (fun x d1 QQ hq => ?_) (fun _ => trivial) fun l6 d6 l6l l6t => ?_
  · mul_fits
    refine letter_w fun y hy d' => ?_
    mul_fits
    exact hq y hy d'
  mul_fits
  simp only [st_len, st_app]
  refine ⟨le_size (by decide), ?_⟩
  refine letters2_w (fun x d1 QQ hq => ?_) (fun _ => trivial) fun l7 d7 l7l l7t => ?_
  · mul_fits
    refine letter_w fun y hy d' => ?_
    mul_fits
    exact hq y hy d'
  mul_fits
  simp only [st_len, st_app]
  refine draw_ (by decide) (by decide) fun y8 d8 _ _ => ?_
  mul_fits
  simp only [st_len, st_app]
  have hL : ∀ (l : List D), l.length = 2 → (∀ x ∈ l, Lt x) → ∀ (A : Sto), Row (A ++ [Ob.lst l]) A.length := fun l hl ht A => ⟨l, by omega, by omega, get_end _ _, ht⟩
  refine land_rows (P := (R ++ g).length) (b6 := (R ++ g ++ [Ob.lst (ps.map prD)]).length) (b7 := (R ++ g ++ [Ob.lst (ps.map prD)] ++ [Ob.lst l6]).length) (A := R ++ g ++ [Ob.lst (ps.map prD)] ++ [Ob.lst l6] ++ [Ob.lst l7]) tt pn p0 pa (by omega) hnb ?_ ?_ ?_ ?_ ?_ h
  · exact get_pre (get_pre (get_pre hb2))
  · exact get_pre (get_pre (get_end _ _))
  · exact (hL l6 l6l l6t _).pre
  · exact hL l7 l7l l7t _
  · exact ⟨_, by rw [List.append_assoc, List.append_assoc, List.append_assoc]⟩
end
theorem toPsW_strs (f : Nat → Option PyData) : ∀ xs : List Str, toPsW f (xs.map D.str) = some (xs.map PyData.str)
  | [] => rfl
  | x :: xs => by
    rw [List.map_cons, toPsW, toPsW_strs f xs]
    rfl
theorem eqv_strs : ∀ xs ys : List Str, PyData.eqvAll (xs.map PyData.str) (ys.map PyData.str) = decide (xs = ys)
  | [], [] => rfl
  | [], y :: ys => by simp [PyData.eqvAll]
  | x :: xs, [] => by simp [PyData.eqvAll]
  | x :: xs, y :: ys => by
    rw [List.map_cons, List.map_cons, PyData.eqvAll, eqv_strs xs ys]
    have : PyData.eqv (.str x) (.str y) = decide (x = y) := by
      show (x == y) = _
      by_cases h : x = y
      · subst h; simp
      · simp [h]
    rw [this, ← Bool.decide_and]
    congr 1
    simp
theorem shp_strs {xs : List Str} (h : ∀ x ∈ xs, PyData.strOk x = true) : shp (.list (xs.map PyData.str)) = true := by
  have h1 : ∀ xs : List Str, (∀ x ∈ xs, PyData.strOk x = true) → PyData.canLayAll0 (xs.map PyData.str) = true ∧ PyData.depthAll (xs.map PyData.str) = 0 := by
    intro xs
    induction xs with
    | nil => intro _; exact ⟨rfl, rfl⟩
    | cons x xs ih =>
      intro h
      obtain ⟨h1, h2⟩ := ih fun y hy => h y (by simp [hy])
      rw [List.map_cons, PyData.canLayAll0, PyData.depthAll, h1, h2]
      have := h x (by simp)
      exact ⟨by rw [PyData.canLay0, this]; rfl, by simp [PyData.depth]⟩
  obtain ⟨a, b⟩ := h1 xs h
  unfold shp
  rw [PyData.canLay0, a, PyData.depth, b]
  rfl
section
variable {S : Sto} {a b : Nat} {xs ys : List Str}
theorem toP_strs (k1 : S[a]? = some (.lst (xs.map D.str))) : toP S (.ref a) = some (.list (xs.map PyData.str)) := by
  show refP S 8 a = _
  rw [refP, k1]
  show (toPsW _ _).map PyData.list = _
  rw [toPsW_strs]
  rfl
theorem w_eqStrs {Q : D → Sto → Prop} (k1 : S[a]? = some (.lst (xs.map D.str))) (k2 : S[b]? = some (.lst (ys.map D.str))) (o1 : ∀ x ∈ xs, PyData.strOk x = true) (o2 : ∀ x ∈ ys, PyData.strOk x = true) (h : Q (.bl (decide (xs = ys))) S) : W (cmpD .eq (.ref a) (.ref b) S) Q := by
  have e : dEq S (.ref a) (.ref b) = some (decide (xs = ys)) := by
    unfold dEq
    rw [if_neg (by simp [scalD])]
    simp only [toP_strs k1, toP_strs k2, shp_strs o1, shp_strs o2, Bool.and_self, if_true]
    rw [PyData.eqv, eqv_strs]
  simp only [cmpD, e, may_some, W_ok]
  exact h
end
def LpAt (b : Bk) (s : Str) (i : Nat) : Prop := ∃ r, b.rls[i]? = some r ∧ r.nm = s ∧ r.sl.map (·.nm) = [s]
/-- the dict of loops: names and the places of their lists -/
structure LpD (b : Bk) (n : Nat) (St : Sto) (a : Nat) (ks : List (Str × Nat)) : Prop where
  at_ : St[a]? = some (.dic (encK D.ref ks))
  ls : ∀ s j, gS ks s = some j → a < j ∧ ∃ nums : List Nat, St[j]? = some (.lst (nums.map natD)) ∧ 0 < nums.length ∧ nums.length ≤ n ∧ ∀ i ∈ nums, LpAt b s i
  all : ∀ i < n, ∀ s, LpAt b s i → (gS ks s).isSome = true
  len : ks.length ≤ n
theorem LpD.pre {b : Bk} {n : Nat} {St g : Sto} {a : Nat} {ks : List (Str × Nat)} (L : LpD b n St a ks) : LpD b n (St ++ g) a ks :=
  ⟨get_pre L.at_, fun s j h => let ⟨h1, nums, h2, h3⟩ := L.ls s j h; ⟨h1, nums, get_pre h2, h3⟩, L.all, L.len⟩
theorem LpD.st {b : Bk} {n : Nat} {d d' : DS} {X g : Sto} {a : Nat} {ks : List (Str × Nat)} (h2 : 2 ≤ a) (L : LpD b n (d.st X) a ks) : LpD b n (d'.st (X ++ g)) a ks := by
  have key : ∀ (j : Nat) (o : Ob), 2 ≤ j → (d.st X)[j]? = some o → (d'.st (X ++ g))[j]? = some o := fun j o hj e => by
    obtain ⟨i, rfl⟩ : ∃ i, j = i + 2 := ⟨j - 2, by omega⟩
    rw [st_get] at e ⊢
    exact get_pre e
  exact ⟨key _ _ h2 L.at_, fun s j h => let ⟨h1, nums, h3, h4⟩ := L.ls s j h; ⟨h1, nums, key _ _ (by omega) h3, h4⟩, L.all, L.len⟩
theorem LpD.skip {b : Bk} {n : Nat} {St : Sto} {a : Nat} {ks : List (Str × Nat)} (L : LpD b n St a ks) (h : ∀ s, ¬ LpAt b s n) : LpD b (n + 1) St a ks :=
  ⟨L.at_, fun s j h => let ⟨h1, nums, h2, h3, h4, h5⟩ := L.ls s j h; ⟨h1, nums, h2, h3, by omega, h5⟩, fun i hi s z => by
    rcases Nat.lt_succ_iff_lt_or_eq.mp hi with hi | rfl
    · exact L.all i hi s z
    · exact absurd z (h s), by have := L.len; omega⟩
theorem LpD.add {b : Bk} {n Z : Nat} {St : Sto} {a : Nat} {ks : List (Str × Nat)} {nm : Str} {nums : List Nat} (L : LpD b n St a ks) (hZ : a < Z) (kZ : St[Z]? = some (.lst ((nums ++ [n]).map natD))) (hl : nums.length ≤ n) (hal : ∀ i ∈ nums, LpAt b nm i) (hn : LpAt b nm n) : LpD b (n + 1) (St.set a (.dic (encK D.ref (pS ks nm Z)))) a (pS ks nm Z) := by
  have ha : a < St.length := (List.getElem?_eq_some_iff.mp L.at_).1
  refine ⟨by rw [List.getElem?_set_self ha], fun s j h => ?_, fun i hi s z => ?_, Nat.le_trans (pS_len _ _ _) (by have := L.len; omega)⟩
  · rw [gS_pS] at h
    split at h
    · rename_i e
      subst e
      cases h
      refine ⟨hZ, nums ++ [n], by rw [List.getElem?_set_ne (Nat.ne_of_lt hZ)]; exact kZ, by simp, by simp; omega, fun i hi => ?_⟩
      rcases List.mem_append.mp hi with hi | hi
      · exact hal i hi
      · rw [List.mem_singleton.mp hi]; exact hn
    · obtain ⟨h1, nums', h2, h3, h4, h5⟩ := L.ls s j h
      exact ⟨h1, nums', by rw [List.getElem?_set_ne (Nat.ne_of_lt h1)]; exact h2, h3, by omega, h5⟩
  · rw [gS_pS]
    split
    · rfl
    · rename_i ne
      rcases Nat.lt_succ_iff_lt_or_eq.mp hi with hi | rfl
      · exact L.all i hi s z
      · obtain ⟨r, h1, h2, _⟩ := hn
        obtain ⟨r', h1', h2', _⟩ := z
        rw [h1] at h1'
        cases h1'
        exact absurd (h2.symm.trans h2') ne
section
variable {k : Nat} {S : Sto} {Q : D → Sto → Prop} {b : Bk}
theorem loops_w (hz : b.rls.length ≤ 1000) (h3 : ∀ r ∈ b.rls, r.sl.length ≤ 3) (ok : ∀ r ∈ b.rls, PyData.strOk r.nm = true ∧ ∀ s ∈ r.sl, PyData.strOk s.nm = true) (h : ∀ (ks : List (Str × Nat)) (G : Sto), LpD b b.rls.length (S ++ G) S.length ks → Q (.ref S.length) (S ++ G)) : W (orc T (k + 1) n__law_loops [b.d] S) Q := by
  refine orc_w (ρ := [some b.d, none, none, none, none]) rfl rfl rfl ?_
  show W (evSs _ b__law_loops _ _) _
  simp only [b__law_loops]
  mul_fits
  rw [List.length_map]
  mul_fits
  show W (loopS _ _ (rgD 0 ((b.rls.length : Nat) : Int)) _ _) _
  rw [show rgD 0 ((b.rls.length : Nat) : Int) = (List.range' 0 b.rls.length).map natD from rgD_nat 0 _ (Nat.zero_le _)]
  refine loopS_e natD (fun r ρ S' => ∃ (n : Nat) (ks : List (Str × Nat)) (G : Sto) (o2 o3 : Option D), S' = S ++ [.dic (encK D.ref ks)] ++ G ∧ ρ = [some b.d, some (.ref S.length), o2, o3, none] ∧ r = List.range' n (b.rls.length - n) ∧ n ≤ b.rls.length ∧ LpD b n S' S.length ks) ?_ ?_ _ _ _ ⟨0, [], [], none, none, by simp; rfl, rfl, rfl, Nat.zero_le _, ⟨by simp; rfl, fun _ _ h => (nomatch h), fun _ h => absurd h (Nat.not_lt_zero _), Nat.le_refl _⟩⟩
  · rintro i r ρ S' ⟨n, ks, G, o2, o3, rfl, rfl, hr, hn, L⟩
    refine ⟨trivial, ?_⟩
    obtain ⟨hn2, rfl, rfl⟩ : n < b.rls.length ∧ i = n ∧ r = List.range' (n + 1) (b.rls.length - (n + 1)) := by
      cases e : b.rls.length - n with
      | zero => rw [e] at hr; cases hr
      | succ q =>
        rw [e, List.range'_succ, List.cons.injEq] at hr
        exact ⟨by omega, hr.1, by rw [hr.2]; congr 1; omega⟩
    have hm := List.getElem_mem hn2
    have hat := at_rl hn2
    have hri : b.rls[i]? = some b.rls[i] := List.getElem?_eq_getElem hn2
    generalize b.rls[i] = ri at hat hm hri
    simp only [b__law_loops_1]
    mul_fits
    refine ⟨by rw [List.length_map]; have := h3 ri hm; exact le_size (by omega), ?_⟩
    refine loopQ_m Sl.d (fun s => .str s.nm) (fun S' => S' = S ++ [.dic (encK D.ref ks)] ++ G) ri.sl (fun s hs S' e => ⟨trivial, ?_⟩) (fun S' e => ⟨trivial, ?_⟩) _ rfl
    · subst e
      mul_fits
      exact ⟨rfl, rfl⟩
    subst e
    mul_fits
    have L1 := (L.pre (g := [Ob.lst (ri.sl.map fun s => D.str s.nm)])).pre (g := [Ob.lst [D.str ri.nm]])
    have ko := ok ri hm
    refine w_eqStrs (xs := ri.sl.map (·.nm)) (ys := [ri.nm]) (by rw [List.map_map]; exact get_pre (get_end _ _)) (get_end _ _) (fun x hx => ?_) (fun x hx => by rw [List.mem_singleton.mp hx]; exact ko.1) ?_
    · obtain ⟨s, hs, rfl⟩ := List.mem_map.mp hx
      exact ko.2 s hs
    have eM : S ++ [Ob.dic (encK D.ref ks)] ++ G ++ [Ob.lst (ri.sl.map fun s => D.str s.nm)] ++ [Ob.lst [D.str ri.nm]] = S ++ [Ob.dic (encK D.ref ks)] ++ (G ++ [Ob.lst (ri.sl.map fun s => D.str s.nm)] ++ [Ob.lst [D.str ri.nm]]) := by simp
    rw [eM] at L1 ⊢
    generalize G ++ [Ob.lst (ri.sl.map fun s => D.str s.nm)] ++ [Ob.lst [D.str ri.nm]] = G1 at L1 ⊢
    mul_fits
    refine w_ifd (fun c => ?_) fun c => ?_
    rotate_left
    · mul_fits
      refine ⟨_, .inl rfl, i + 1, ks, G1, _, _, rfl, rfl, rfl, hn2, L1.skip fun s z => c ?_⟩
      obtain ⟨r, z1, z2, z3⟩ := z
      rw [hri] at z1
      cases z1
      rw [z3, z2]
    mul_fits
    refine w_withD L1.at_ ?_
    mul_fits
    have L2 := L1.pre (g := [Ob.lst []])
    refine v_dget L2.at_ rfl ?_
    have lp : LpAt b ri.nm i := ⟨ri, hri, rfl, c⟩
    obtain ⟨j, nums, ej, hj, kj, hl, hal⟩ : ∃ (j : Nat) (nums : List Nat), (gD (encK D.ref ks) (.inr ri.nm)).getD (.ref (S ++ [Ob.dic (encK D.ref ks)] ++ G1).length) = .ref j ∧ S.length < j ∧ (S ++ [Ob.dic (encK D.ref ks)] ++ G1 ++ [Ob.lst []])[j]? = some (.lst (nums.map natD)) ∧ nums.length ≤ i ∧ ∀ x ∈ nums, LpAt b ri.nm x := by
      rw [gD_enc]
      cases e : gS ks ri.nm with
      | none => exact ⟨_, [], rfl, by simp, get_end _ _, Nat.zero_le _, by simp⟩
      | some j =>
        obtain ⟨h1, nums, h2, h3, h4, h5⟩ := L2.ls _ _ e
        exact ⟨j, nums, rfl, h1, h2, h4, h5⟩
    rw [ej]
    have hnz : nums.length ≤ 1000 := by omega
    mul_fits
    refine w_ask (by rw [List.length_map]; exact le_size (by simp; omega)) ?_
    mul_fits
    have L3 := L2.pre (g := [Ob.lst (nums.map natD ++ [natD i])])
    have en : nums.map natD ++ [natD i] = (nums ++ [i]).map natD := by rw [List.map_append]; rfl
    rw [en] at L3 ⊢
    have kZ := get_end (S ++ [Ob.dic (encK D.ref ks)] ++ G1 ++ [Ob.lst []]) (Ob.lst ((nums ++ [i]).map natD))
    refine v_setK L3.at_ rfl (by rw [encK_len]; have := L3.len; exact le_size (by omega)) ?_
    have L4 := L3.add (by simp) kZ hl hal lp
    rw [pD_enc]
    mul_fits
    have es : ∀ (a b : Ob) (x y : Sto), (S ++ [a] ++ G1 ++ x ++ y).set S.length b = S ++ [b] ++ (G1 ++ x ++ y) := fun a b x y => by
      have e : S ++ [a] ++ G1 ++ x ++ y = S ++ [a] ++ (G1 ++ x ++ y) := by simp
      rw [e]
      exact set_mid _ _ _ _
    rw [es] at L4 ⊢
    exact ⟨_, .inl rfl, i + 1, _, _, _, _, rfl, rfl, rfl, hn2, L4⟩
  · rintro ρ S' ⟨n, ks, G, o2, o3, rfl, rfl, hr, hn, L⟩
    refine ⟨trivial, ?_⟩
    have en : n = b.rls.length := by
      cases e : b.rls.length - n with
      | zero => omega
      | succ q => rw [e] at hr; cases hr
    subst en
    simp only [b__law_loops_2]
    mul_fits
    rw [List.append_assoc] at L ⊢
    rw [gc_out (by simp [below])]
    exact w_ok (h ks _ L)
end
/-- each node's rule is in the book and has slots enough -/
def Nw (b : Bk) (t : Ht) : Prop := ∀ y ∈ t.pre, y = .hole ∨ ∃ n hd ks r, y = .nd n hd ks ∧ b.rls[n]? = some r ∧ ks.length ≤ r.sl.length
def snm (b : Bk) (n k : Nat) : Str := (((rlI b n).sl[k]?).map (·.nm)).getD ""
def nml (b : Bk) (t : Ht) (nm : Str) : List Str := t.dn (fun x _ k => snm b x.num k) nm
theorem nml_len (b : Bk) (t : Ht) (nm : Str) : (nml b t nm).length = t.pre.length := hdn_len t nm
section
variable {k : Nat} {S : Sto} {Q : D → Sto → Prop} {t : Ht} {b : Bk} {nm : Str}
theorem nml_kid {i j : Nat} {x : Gt} (hx : t.g.pre[i]? = some x) (hj : j < x.kids.length) : ∃ y : Ht, t.pre[i]? = some y ∧ x = y.g ∧ j < y.kids.length ∧ (nml b t nm)[i + 1 + goff j x.kids]? = some (snm b y.num j) := by
  obtain ⟨y, h1, rfl⟩ := hg_get hx
  rw [hg_kids] at hj ⊢
  rw [List.length_map] at hj
  have hi : i < (nml b t nm).length := by rw [nml_len]; exact (List.getElem?_eq_some_iff.mp h1).1
  refine ⟨y, h1, rfl, hj, ?_⟩
  rw [hoff_g]
  exact hdn_kid' t nm i y _ j h1 (List.getElem?_eq_getElem hi) hj
theorem lnames_w (hw : Nw b t) (hb : b.rls.length ≤ 1000) (h3 : ∀ r ∈ b.rls, r.sl.length ≤ 3) (hz : t.pre.length ≤ 3000) (hk : ∀ x ∈ t.pre, x.kids.length ≤ 10) (h : ∀ (G : Sto) (c : Nat), S.length ≤ c → (S ++ G)[c]? = some (.lst ((nml b t nm).map D.str)) → Q (.ref c) (S ++ G)) : W (orc T (k + 3) n__law_names_along [b.d, .str nm, t.d] S) Q := by
  refine orc_w (ρ := [some b.d, some (.str nm), some t.d, none, none, none, none, none, none]) rfl rfl rfl ?_
  show W (evSs _ b__law_names_along _ _) _
  simp only [b__law_names_along]
  mul_fits
  refine hlflat_w hz hk fun G a bb c ka hB kc => ?_
  obtain ⟨rs, kb, hrl, hbl⟩ := hB
  rw [hg_len] at hrl
  refine w_may (show bindN (.tup [3, 4]) (.ref c) _ _ = some [some b.d, some (.str nm), some t.d, some (.ref a), some (.ref bb), none, none, none, none] from by simp only [bindN, sq_lst kc, Option.bind_some]; rfl) ?_
  generalize hSx : S ++ G = Sx at *
  mul_fits
  refine ⟨by rw [List.length_map]; exact le_size (by omega), ?_⟩
  refine loopQ_m Ht.d (fun _ => .str nm) (fun Sy => Sy = Sx) _ (fun r _ Sy e => ?_) (fun Sy e => ?_) _ rfl
  · subst e
    refine ⟨ka, ?_⟩
    mul_fits
    exact ⟨rfl, rfl⟩
  subst e
  refine ⟨ka, ?_⟩
  have ka' : ∀ o, (Sy ++ [o])[a]? = some (.lst (t.pre.map Ht.d)) := fun o => get_pre ka
  have em : (t.pre.map fun _ => D.str nm) = (t.pre.map fun _ => nm).map D.str := by rw [List.map_map]; rfl
  rw [em]
  have ka1 := ka' (.lst ((t.pre.map fun _ => nm).map D.str))
  have kb' : ∀ o, (Sy ++ [o])[bb]? = some (.lst (rs.map D.ref)) := fun o => get_pre kb
  mul_fits
  rw [List.length_map]
  have bd : bd62 0 ∧ bd62 (t.pre.length : Int) := by unfold bd62; omega
  mul_fits
  rw [rgD_0]
  refine loopS_e natD (fun r ρ S' => ∃ (i m : Nat) (A : List Str) (o2 o3 : Option D), i + m = t.pre.length ∧ r = List.range' i m ∧ S' = Sy ++ [.lst (A.map D.str)] ∧ ρ = [some b.d, some (.str nm), some t.d, some (.ref a), some (.ref bb), some (.ref Sy.length), o2, o3, none] ∧ Agr t.g A (nml b t nm) i 0) ?_ ?_ _ _ _ ⟨0, t.pre.length, t.pre.map fun _ => nm, _, _, by omega, rfl, rfl, rfl, .start (by rw [List.length_map, nml_len]) (by
    unfold nml
    rw [hdn_eq]
    have : 0 < t.pre.length := hpre_pos t
    simp [this])⟩
  · rintro i r ρ S' ⟨i', m, A, o2, o3, him, hr, rfl, rfl, ag⟩
    refine ⟨trivial, ?_⟩
    cases m with
    | zero => exact absurd hr (by simp)
    | succ m =>
    rw [rg'_cons, List.cons.injEq] at hr
    obtain ⟨rfl, rfl⟩ := hr
    have hi0 : i < t.pre.length := by omega
    have hi : i < t.g.pre.length := by rw [hg_len]; omega
    have hx : t.g.pre[i]? = some t.g.pre[i] := List.getElem?_eq_getElem hi
    generalize t.g.pre[i] = x at hx
    obtain ⟨xr, kr, kx⟩ := hbl i x hx
    have hxk : x.kids.length ≤ 10 := hg_klen hk x (List.mem_of_getElem? hx)
    obtain ⟨y, hy, rfl⟩ := hg_get hx
    have hya : atI (t.pre.map Ht.d) (i : Int) = some y.d := by
      rw [at_map _ _ _ hi0, (List.getElem?_eq_some_iff.mp hy).2]
    simp only [b__law_names_along_1]
    have ka2 := ka' (.lst (A.map D.str))
    have kb2 := kb' (.lst (A.map D.str))
    have kx2 : (Sy ++ [Ob.lst (A.map D.str)])[xr]? = some (.lst ((gstarts (i + 1) y.g.kids).map natD)) := get_pre kx
    rcases hw y (List.mem_of_getElem? hy) with rfl | ⟨n, hd, ks, r, rfl, hr, hkr⟩
    · mul_fits
      exact ⟨_, .inl rfl, i + 1, m, A, _, _, by omega, rfl, rfl, rfl, ag.next hx (by rw [hg_kids]; rfl)⟩
    generalize hyy : Ht.nd n hd ks = y at *
    have hyd : y.d = .tup (natD n :: (hd ++ [.tup (htd ks)])) := by rw [← hyy, Ht.d]
    have hyn : y.num = n := by rw [← hyy]; rfl
    have hyk : y.kids = ks := by rw [← hyy]; rfl
    rw [hyd] at hya
    have hnl : n < b.rls.length := (List.getElem?_eq_some_iff.mp hr).1
    have hatn : atI (b.rls.map Rl.d) (n : Int) = some r.d := by rw [at_rl hnl, (List.getElem?_eq_some_iff.mp hr).2]
    have hrI := rlI_eq hr
    mul_fits
    rw [List.length_map, gstarts_len]
    have bd : bd62 0 ∧ bd62 (y.g.kids.length : Int) := by unfold bd62; omega
    mul_fits
    rw [rgD_0]
    refine loopS_e natD (fun r ρ S' => ∃ (j m : Nat) (A : List Str) (o3 : Option D), j + m = y.g.kids.length ∧ r = List.range' j m ∧ S' = Sy ++ [.lst (A.map D.str)] ∧ ρ = [some b.d, some (.str nm), some t.d, some (.ref a), some (.ref bb), some (.ref Sy.length), some (natD i), o3, none] ∧ Agr t.g A (nml b t nm) i j) ?_ ?_ _ _ _ ⟨0, y.g.kids.length, A, _, by omega, rfl, rfl, rfl, ag⟩
    · rintro j r' ρ S' ⟨j', m', A, o3, hjm, hr', rfl, rfl, ag⟩
      refine ⟨trivial, ?_⟩
      cases m' with
      | zero => exact absurd hr' (by simp)
      | succ m' =>
      rw [rg'_cons, List.cons.injEq] at hr'
      obtain ⟨rfl, rfl⟩ := hr'
      have hj : j < y.g.kids.length := by omega
      have hjk : j < r.sl.length := by rw [hg_kids, List.length_map, hyk] at hj; omega
      have hlt := gpre_lt hx hj
      have ka3 := ka' (.lst (A.map D.str))
      have kb3 := kb' (.lst (A.map D.str))
      have kx3 : (Sy ++ [Ob.lst (A.map D.str)])[xr]? = some (.lst ((gstarts (i + 1) y.g.kids).map natD)) := get_pre kx
      have kA : (Sy ++ [Ob.lst (A.map D.str)])[Sy.length]? = some (.lst (A.map D.str)) := get_end _ _
      have ks' := at_starts (i := i) hj
      have hAl : A.length = t.pre.length := by rw [ag.len, nml_len]
      have hsl : atI (r.sl.map Sl.d) (j : Int) = some (r.sl[j]).d := at_map _ _ _ hjk
      obtain ⟨y', z1, z2, z3, z4⟩ := nml_kid (b := b) (nm := nm) hx hj
      have ey : y' = y := Option.some.inj (z1.symm.trans hy)
      subst ey
      have esn : snm b y'.num j = (r.sl[j]).nm := by
        unfold snm
        rw [hyn, hrI, List.getElem?_eq_getElem hjk]
        rfl
      rw [esn] at z4
      simp only [b__law_names_along_2]
      mul_fits
      refine v_idxT (at_nat (k := 0) _ (by simp)) ?_
      mul_fits
      refine v_idxT hatn ?_
      mul_fits
      refine v_set kA (ix_nat (by rw [List.length_map, hAl, ← hg_len]; exact hlt)) ?_
      rw [set_end]
      mul_fits
      exact ⟨_, .inl rfl, j + 1, m', A.set (i + 1 + goff j y'.g.kids) (r.sl[j]).nm, _, by omega, rfl, by rw [List.map_set], rfl, ag.step hx z4⟩
    · rintro ρ S' ⟨j, m', A, o3, hjm, hr', rfl, rfl, ag⟩
      refine ⟨trivial, ?_⟩
      cases m' with
      | succ m' => exact absurd hr' (by simp [rg'_cons])
      | zero =>
      mul_fits
      exact ⟨_, .inl rfl, i + 1, m, A, _, _, by omega, rfl, rfl, rfl, ag.next hx (by omega)⟩
  · rintro ρ S' ⟨i, m, A, o2, o3, him, hr, rfl, rfl, ag⟩
    refine ⟨trivial, ?_⟩
    cases m with
    | succ m => exact absurd hr (by simp [rg'_cons])
    | zero =>
    have := ag.done (by rw [nml_len, hg_len]) (by rw [hg_len]; omega)
    subst this
    mul_fits
    simp only [b__law_names_along_3]
    mul_fits
    subst hSx
    rw [gc_out (by simp [below])]
    have h2 := h (G ++ [Ob.lst ((nml b t nm).map D.str)]) (S ++ G).length (by simp) (by
      rw [← List.append_assoc]
      exact get_end _ _)
    rw [← List.append_assoc] at h2
    exact w_ok h2
end
/-- rows and names of the builds of the names due -/
def Tp (b : Bk) : List Str → List (Nat × Nat) → List Str → Prop
  | w, [], [] => w = []
  | [], _ :: _, _ => False
  | _, [], _ :: _ => False
  | _ :: _, _ :: _, [] => False
  | s :: w, (n, m) :: rows, s' :: nms => s' = s ∧ ∃ r, b.rls[n]? = some r ∧ r.nm = s ∧ m = r.sl.length ∧ Tp b (r.sl.map (·.nm) ++ w) rows nms
theorem Tp.len {b : Bk} : ∀ {w : List Str} {rows : List (Nat × Nat)} {nms : List Str}, Tp b w rows nms → nms.length = rows.length
  | _, [], [], _ => rfl
  | [], _ :: _, _, h => by simp [Tp] at h
  | _, [], _ :: _, h => by cases ‹List Str› <;> simp [Tp] at h
  | _ :: _, _ :: _, [], h => by simp [Tp] at h
  | s :: w, (n, m) :: rows, s' :: nms, h => by
    rw [Tp] at h
    obtain ⟨_, r, _, _, _, h⟩ := h
    rw [List.length_cons, List.length_cons, Tp.len h]
theorem Tp.parse {b : Bk} : ∀ {rows : List (Nat × Nat)} {w nms : List Str}, Tp b w rows nms → ∃ ts, par rows = some ts ∧ Wfs b w ts ∧ (pres ts).length = rows.length
  | [], w, [], h => by
    have : w = [] := by cases w <;> simpa [Tp] using h
    subst this
    exact ⟨[], rfl, trivial, rfl⟩
  | [], w, _ :: _, h => by cases w <;> simp [Tp] at h
  | _ :: _, [], _, h => by simp [Tp] at h
  | _ :: _, _ :: _, [], h => by simp [Tp] at h
  | (n, m) :: rows, s :: w, s' :: nms, h => by
    rw [Tp] at h
    obtain ⟨_, r, h1, h2, rfl, h3⟩ := h
    obtain ⟨ts, e1, e2, e3⟩ := Tp.parse h3
    have hl := e2.len
    rw [List.length_append, List.length_map] at hl
    obtain ⟨f1, f2⟩ := e2.split
    rw [List.length_map] at f1 f2
    refine ⟨.nd n (ts.take r.sl.length) :: ts.drop r.sl.length, ?_, ⟨⟨r, h1, h2, f1⟩, f2⟩, ?_⟩
    · rw [par, e1]
      show (if _ then _ else _) = _
      rw [if_pos (by omega)]
    · rw [pres, Tr.pre, List.cons_append, ← pres_append, List.take_append_drop, List.length_cons, e3, List.length_cons]
theorem Tp.ins {b : Bk} : ∀ {rows : List (Nat × Nat)} {w nms : List Str} {at_ n : Nat} {s : Str}, Tp b w rows nms → nms[at_]? = some s → LpAt b s n → Tp b w (rows.take at_ ++ [(n, 1)] ++ rows.drop at_) (nms.take at_ ++ [s] ++ nms.drop at_)
  | [], w, [], at_, n, s, h, h1, _ => by simp at h1
  | [], w, _ :: _, _, _, _, h, _, _ => by cases w <;> simp [Tp] at h
  | _ :: _, [], _, _, _, _, h, _, _ => by simp [Tp] at h
  | _ :: _, _ :: _, [], _, _, _, h, _, _ => by simp [Tp] at h
  | (n0, m0) :: rows, s0 :: w, s1 :: nms, 0, n, s, h, h1, h2 => by
    cases h1
    obtain ⟨r, q1, q2, q3⟩ := h2
    have e : s1 = s0 := by rw [Tp] at h; exact h.1
    subst e
    show Tp b (s1 :: w) ((n, 1) :: (n0, m0) :: rows) (s1 :: s1 :: nms)
    rw [Tp]
    refine ⟨rfl, r, q1, q2, ?_, ?_⟩
    · have := congrArg List.length q3
      simpa using this.symm
    · rw [q3]
      exact h
  | (n0, m0) :: rows, s0 :: w, s1 :: nms, at_ + 1, n, s, h, h1, h2 => by
    rw [Tp] at h
    obtain ⟨e, r, q1, q2, q3, q4⟩ := h
    have h1 : nms[at_]? = some s := by simpa using h1
    show Tp b (s0 :: w) ((n0, m0) :: (rows.take at_ ++ [(n, 1)] ++ rows.drop at_)) (s1 :: (nms.take at_ ++ [s] ++ nms.drop at_))
    rw [Tp]
    exact ⟨e, r, q1, q2, q3, q4.ins h1 h2⟩
/-- a build's own rows and names -/
def rwsT (t : Tr) : List (Nat × Nat) := t.pre.map fun x => (x.num, x.kids.length)
mutual
theorem tp_tr {b : Bk} : ∀ (t : Tr) {s : Str} {w : List Str} {rows : List (Nat × Nat)} {nms : List Str}, Wf b s t → Tp b w rows nms → Tp b (s :: w) (rwsT t ++ rows) (nml b t.h s ++ nms)
  | .nd n ps, s, w, rows, nms, h, g => by
    rw [Wf] at h
    obtain ⟨r, h1, h2, h3⟩ := h
    unfold rwsT nml
    rw [Tr.pre, th_nd, Ht.dn, List.map_cons, List.cons_append, List.cons_append]
    rw [Tp]
    refine ⟨rfl, r, h1, h2, by have := h3.len; rw [List.length_map] at this; exact this, ?_⟩
    exact tp_trs ps (fun k => snm b n k) h3 (fun k s hk => by
      unfold snm
      rw [rlI_eq h1]
      rw [List.getElem?_map] at hk
      rw [hk]
      rfl) g
theorem tp_trs {b : Bk} : ∀ (ts : List Tr) {xs : List Str} (f : Nat → Str) {w : List Str} {rows : List (Nat × Nat)} {nms : List Str}, Wfs b xs ts → (∀ k s, xs[k]? = some s → f k = s) → Tp b w rows nms → Tp b (xs ++ w) ((pres ts).map (fun x => (x.num, x.kids.length)) ++ rows) (hdns (fun x _ k => snm b x.num k) (ts.map Tr.h) f ++ nms)
  | [], xs, f, w, rows, nms, h, hf, g => by
    cases xs with
    | nil => exact g
    | cons x xs => simp [Wfs] at h
  | t :: ts, xs, f, w, rows, nms, h, hf, g => by
    cases xs with
    | nil => simp [Wfs] at h
    | cons x xs =>
      rw [Wfs] at h
      rw [pres, List.map_append, List.map_cons, hdns, List.append_assoc, List.append_assoc, List.cons_append]
      have e : f 0 = x := hf 0 x rfl
      rw [e]
      exact tp_tr t h.1 (tp_trs ts (fun k => f (k + 1)) h.2 (fun k s hk => hf (k + 1) s (by simpa using hk)) g)
end
theorem Wf.tp {b : Bk} {t : Tr} {s : Str} (h : Wf b s t) : Tp b [s] (rwsT t) (nml b t.h s) := by
  have := tp_tr (rows := []) (nms := []) (w := []) t h (by simp [Tp])
  rwa [List.append_nil, List.append_nil] at this
theorem LpD.set {b : Bk} {n : Nat} {St : Sto} {a p : Nat} {o : Ob} {ks : List (Str × Nat)} (hp : a ≠ p) (hj : ∀ s j, gS ks s = some j → j ≠ p) (L : LpD b n St a ks) : LpD b n (St.set p o) a ks :=
  ⟨by rw [List.getElem?_set_ne (Ne.symm hp)]; exact L.at_, fun s j h => let ⟨h1, nums, h2, h3⟩ := L.ls s j h; ⟨h1, nums, by rw [List.getElem?_set_ne (Ne.symm (hj s j h))]; exact h2, h3⟩, L.all, L.len⟩
theorem LpD.lt {b : Bk} {n : Nat} {St : Sto} {a : Nat} {ks : List (Str × Nat)} (L : LpD b n St a ks) : ∀ s j, gS ks s = some j → j < St.length := fun s j h =>
  let ⟨_, _, h2, _⟩ := L.ls s j h; (List.getElem?_eq_some_iff.mp h2).1
section
variable {k : Nat} {R : Sto} {Q : D → Sto → Prop} {d : DS} {b : Bk} {nm : Str}
theorem LdOk.mem {b : Bk} (o : LdOk b) : ∀ r ∈ b.rls, r.nm ∈ b.nms.map (·.1) ∧ ∀ s ∈ r.sl, s.nm ∈ b.nms.map (·.1) := fun r hr => by
  obtain ⟨a, h1, h2, _⟩ := (o.rl r hr).ex
  refine ⟨List.mem_map.mpr ⟨_, h1, rfl⟩, fun s hs => ?_⟩
  obtain ⟨a', h3, _⟩ := h2 s hs
  exact List.mem_map.mpr ⟨_, h3, rfl⟩
theorem LdOk.ok {b : Bk} (o : LdOk b) : ∀ r ∈ b.rls, PyData.strOk r.nm = true ∧ ∀ s ∈ r.sl, PyData.strOk s.nm = true := fun r hr =>
  ⟨o.tt.ok _ (o.mem r hr).1, fun s hs => o.tt.ok _ ((o.mem r hr).2 s hs)⟩
theorem LdOk.least {b : Bk} (o : LdOk b) (h : LR b.rls nm) : ∃ v, gS (lstB b) nm = some v ∧ v ≤ 1 := by
  obtain ⟨x, h1, h2, h3⟩ := h.1
  obtain ⟨u, u1, u2⟩ := leaf_at (b := b) (s := nm) (by
    unfold leafB
    rw [List.any_eq_true]
    exact ⟨x, h1, by simp [h2, h3]⟩)
  have : 1 ≤ b.nms.length := List.length_pos_of_mem o.top
  obtain ⟨v, v1, v2⟩ := lsts_le b this nm u u1
  exact ⟨v, v1, by omega⟩
theorem Tp.names {b : Bk} : ∀ {rows : List (Nat × Nat)} {w nms : List Str}, Tp b w rows nms → ∀ s ∈ nms, ∃ r ∈ b.rls, r.nm = s
  | [], w, [], h, s, hs => by simp at hs
  | [], w, _ :: _, h, _, _ => by cases w <;> simp [Tp] at h
  | _ :: _, [], _, h, _, _ => by simp [Tp] at h
  | _ :: _, _ :: _, [], h, _, _ => by simp [Tp] at h
  | (n, m) :: rows, s :: w, s' :: nms, h, x, hx => by
    rw [Tp] at h
    obtain ⟨e, r, h1, h2, _, h3⟩ := h
    rcases List.mem_cons.mp hx with rfl | hx
    · exact ⟨r, List.mem_of_getElem? h1, h2.trans e.symm⟩
    · exact h3.names x hx
theorem Tp.few {b : Bk} (h3 : ∀ r ∈ b.rls, r.sl.length ≤ 3) : ∀ {rows : List (Nat × Nat)} {w nms : List Str}, Tp b w rows nms → ∀ p ∈ rows, p.2 ≤ 3
  | [], w, _, h, s, hs => by simp at hs
  | _ :: _, [], _, h, _, _ => by simp [Tp] at h
  | _ :: _, _ :: _, [], h, _, _ => by simp [Tp] at h
  | (n, m) :: rows, s :: w, s' :: nms, h, x, hx => by
    rw [Tp] at h
    obtain ⟨e, r, h1, h2, h4, h5⟩ := h
    rcases List.mem_cons.mp hx with rfl | hx
    · show m ≤ 3
      rw [h4]
      exact h3 r (List.mem_of_getElem? h1)
    · exact h5.few h3 x hx
theorem wf_nw {t : Ht} (w : WfH b nm t) : Nw b t := fun y hy => by
  obtain ⟨nm', w'⟩ := w.node y hy
  obtain ⟨n, hd, ks, e, h1, h2, h3⟩ := w'.top
  exact .inr ⟨n, hd, ks, _, e, h1, by omega⟩
theorem sized_w {size : Nat} (o : LdOk b) (hn : LR b.rls nm) (hs : 1 ≤ size ∧ size ≤ 900) (h : ∀ (t : Tr) (d' : DS), Wf b nm t → t.pre.length = size → Q t.d (d'.st R)) : W (orc T (k + 5) n__law_sized [.ref 1, b.d, .str nm, natD size] (d.st R)) Q := by
  refine orc_w (ρ := [some (.ref 1), some b.d, some (.str nm), some (natD size), none, none, none, none, none, none, none, none, none]) rfl rfl rfl ?_
  show W (evSs _ b__law_sized _ _) _
  simp only [b__law_sized]
  mul_fits
  have h3 : ∀ r ∈ b.rls, r.sl.length ≤ 3 := fun r hr => (o.rl r hr).sl
  refine loops_w (by have := o.rz; omega) h3 o.ok fun ks G L => ?_
  simp only [st_len, st_app] at L ⊢
  mul_fits
  refine draw_ (by omega) (by omega) fun y d1 y0 y1 => ?_
  obtain ⟨y, rfl⟩ := Int.eq_ofNat_of_zero_le y0
  mul_fits
  have e1 : (1 : Int) + (y : Int) = ((1 + y : Nat) : Int) := by omega
  rw [e1]
  obtain ⟨v, hv, v1⟩ := o.least hn
  refine build_w (by have := o.nz; omega) (by have := o.rz; omega) h3 (fun v' hv' => by rw [hv] at hv'; cases hv'; omega) (by omega) (fun z => by rw [hv] at z; cases z) fun t d2 wf hl => ?_
  have hlen : t.pre.length ≤ size := by
    obtain ⟨v', hv', hl⟩ := hl
    rw [hv] at hv'
    cases hv'
    omega
  have L := L.st (d' := d2) (g := []) (by omega)
  rw [List.append_nil] at L
  mul_fits
  rw [← th_d]
  have hpl : t.h.pre.length = t.pre.length := by rw [th_pre, List.length_map]
  have hkz : ∀ x ∈ t.h.pre, x.kids.length ≤ 10 := fun x hx => by
    obtain ⟨nm', w'⟩ := (wfh_of t wf).node x hx
    obtain ⟨n, hd, ks, e, q1, q2, q3⟩ := w'.top
    have := h3 _ (List.mem_of_getElem? q1)
    rw [e]
    show ks.length ≤ 10
    omega
  refine hlflat_w (t := t.h) (by omega) hkz fun G2 a c cc ka hB kc => ?_
  obtain ⟨rs, kb, hrl, hbl⟩ := hB
  rw [hg_len] at hrl
  refine w_may (show bindN (.tup [6, 7]) (.ref cc) _ _ = some [some (.ref 1), some b.d, some (.str nm), some (natD size), some (.ref (R.length + 2)), some t.h.d, some (.ref a), some (.ref c), none, none, none, none, none] from by simp only [bindN, sq_lst kc, Option.bind_some]; rfl) ?_
  have L := L.pre (g := G2)
  rw [st_app] at ka kb kc hbl L ⊢
  rw [List.append_assoc] at ka kb kc hbl L ⊢
  generalize G ++ G2 = G' at ka kb kc hbl L ⊢
  have hjs : ∀ s j, gS ks s = some j → j < (R ++ G').length + 2 := L.lt
  have hRz : R.length + 2 < (R ++ G').length + 2 := (List.getElem?_eq_some_iff.mp L.at_).1
  mul_fits
  rw [List.length_map]
  have bd : bd62 0 ∧ bd62 (t.h.pre.length : Int) := by unfold bd62; omega
  mul_fits
  rw [rgD0]
  refine ⟨by rw [List.length_map, List.length_range]; exact le_size (by omega), ?_⟩
  refine loopQ_m natD (fun i => rwD ((rwsT t).getD i (0, 0))) (fun S' => S' = d2.st (R ++ G')) _ (fun i hi S' e => ⟨trivial, ?_⟩) (fun S' e => ⟨trivial, ?_⟩) _ rfl
  · subst e
    have hi := List.mem_range.mp hi
    have hit : i < t.pre.length := by omega
    obtain ⟨z, hz⟩ : ∃ z, t.pre[i]? = some z := ⟨_, List.getElem?_eq_getElem hit⟩
    have hzh : t.h.pre[i]? = some z.h := by rw [th_pre, List.getElem?_map, hz]; rfl
    obtain ⟨r, kr, kx⟩ := hbl i z.h.g (hg_getI hzh)
    have kza : atI (t.h.pre.map Ht.d) (i : Int) = some z.h.d := by rw [at_map _ _ _ hi, (List.getElem?_eq_some_iff.mp hzh).2]
    have ezd : z.h.d = .tup [natD z.num, .tup (z.kids.map Tr.d)] := by
      rw [th_d]
      cases z with
      | nd n ps => rw [tr_d]; rfl
    rw [ezd] at kza
    have ekl : z.h.g.kids.length = z.kids.length := by rw [hg_kids, List.length_map, th_kids, List.length_map]
    have erw : (rwsT t).getD i (0, 0) = (z.num, z.kids.length) := by
      unfold rwsT
      rw [List.getD_eq_getElem?_getD, List.getElem?_map, hz]
      rfl
    rw [erw]
    mul_fits
    try (refine v_idx ka kza ?_)
    mul_fits
    rw [List.length_map, gstarts_len, ekl]
    exact ⟨rfl, rfl⟩
  subst e
  have erows : ((List.range t.h.pre.length).map fun i => rwD ((rwsT t).getD i (0, 0))) = (rwsT t).map rwD := by
    refine List.ext_getElem (by simp [rwsT, hpl]) fun i h1 h2 => ?_
    have hi : i < (rwsT t).length := by simpa using h2
    simp [List.getD_eq_getElem?_getD, hi]
  rw [erows]
  mul_fits
  refine lnames_w (t := t.h) (b := b) (nm := nm) (wf_nw (wfh_of t wf)) (by have := o.rz; omega) h3 (by omega) hkz fun G3 c3 hc3 kN => ?_
  rw [st_app, st_app] at kN ⊢
  have L := L.st (d' := d2) (g := [Ob.lst ((rwsT t).map rwD)] ++ G3) (by omega)
  have hc3 : R.length + G'.length + 3 ≤ c3 := by
    have : (d2.st (R ++ G') ++ [Ob.lst ((rwsT t).map rwD)]).length = R.length + G'.length + 3 := by simp [st_len]
    omega
  obtain ⟨zn, rfl⟩ : ∃ zn, c3 = zn + 2 := ⟨c3 - 2, by omega⟩
  have tp := wf.tp
  have hX : ∃ g, R ++ G' ++ [Ob.lst ((rwsT t).map rwD)] ++ G3 = R ++ g := ⟨_, by rw [List.append_assoc, List.append_assoc]⟩
  have kR : (R ++ G' ++ [Ob.lst ((rwsT t).map rwD)] ++ G3)[(R ++ G').length]? = some (.lst ((rwsT t).map rwD)) := get_mid _ _ _
  have kA : (d2.st (R ++ G' ++ [Ob.lst ((rwsT t).map rwD)] ++ G3))[a]? = some (.lst (t.h.pre.map Ht.d)) := by
    rw [List.append_assoc]
    exact get_pre (S := d2.st (R ++ G')) ka
  rw [← List.append_assoc] at L
  generalize R ++ G' ++ [Ob.lst ((rwsT t).map rwD)] ++ G3 = X0 at hX kR kA kN L ⊢
  have hzn : (R ++ G').length < zn := by simp; omega
  simp only [st_len]
  generalize (R ++ G').length = zr at kR hjs hzn hRz ⊢
  mul_fits
  rw [List.length_map, hpl]
  mul_fits
  have eq : ((size : Int) - (t.pre.length : Int)) = ((size - t.pre.length : Nat) : Int) := by omega
  rw [eq]
  mul_fits
  show W (loopS _ _ (rgD 0 ((size - t.pre.length : Nat) : Int)) _ _) _
  rw [rgD0]
  refine loopS_e natD (fun r ρ S' => ∃ (rows : List (Nat × Nat)) (nms : List Str) (X : Sto) (d' : DS) (o10 o11 : Option D), S' = d'.st X ∧ ρ = [some (.ref 1), some b.d, some (.str nm), some (natD size), some (.ref (R.length + 2)), some t.h.d, some (.ref a), some (.ref c), some (.ref (zr + 2)), some (.ref (zn + 2)), o10, o11, none] ∧ (∃ g, X = R ++ g) ∧ X[zr]? = some (.lst (rows.map rwD)) ∧ X[zn]? = some (.lst (nms.map D.str)) ∧ LpD b b.rls.length S' (R.length + 2) ks ∧ Tp b [nm] rows nms ∧ rows.length + r.length = size) ?_ ?_ (List.range (size - t.pre.length)) _ _ ⟨rwsT t, nml b t.h nm, X0, d2, none, none, rfl, rfl, hX, kR, kN, L, tp, by simp [rwsT]; omega⟩
  · rintro i r ρ S' ⟨rows, nms, X, d', o10, o11, rfl, rfl, hX, kR, kN, L, tp, hl⟩
    refine ⟨trivial, ?_⟩
    rw [List.length_cons] at hl
    have hr0 : 0 < rows.length := by
      cases rows with
      | nil => cases nms <;> simp [Tp] at tp
      | cons x l => simp
    have hnl := tp.len
    have kR2 : ∀ d : DS, (d.st X)[zr + 2]? = some (.lst (rows.map rwD)) := fun _ => kR
    have kN2 : ∀ d : DS, (d.st X)[zn + 2]? = some (.lst (nms.map D.str)) := fun _ => kN
    have kR3 := kR2 d'
    simp only [b__law_sized_1]
    mul_fits
    rw [List.length_map]
    refine draw_ (by omega) (by omega) fun y d3 y0 y1 => ?_
    obtain ⟨y, rfl⟩ := Int.eq_ofNat_of_zero_le y0
    have hy : y < nms.length := by omega
    mul_fits
    refine v_idx (kN2 _) (at_map _ _ _ hy) ?_
    obtain ⟨s, hs⟩ : ∃ s, nms[y] = s := ⟨_, rfl⟩
    have hse : nms[y]? = some s := by rw [List.getElem?_eq_getElem hy, hs]
    obtain ⟨r0, hr1, hr2⟩ := tp.names s (List.mem_of_getElem? hse)
    obtain ⟨x, hx1, hx2, hx3⟩ := (o.lr r0 hr1).2
    rw [hr2] at hx2 hx3
    obtain ⟨i0, hi0, ei0⟩ := List.mem_iff_getElem.mp hx1
    have lp0 : LpAt b s i0 := ⟨x, by rw [List.getElem?_eq_getElem hi0, ei0], hx2, hx3⟩
    obtain ⟨j, hj⟩ := Option.isSome_iff_exists.mp (L.all i0 hi0 s lp0)
    have L3 := L.st (d' := d3) (g := []) (by omega)
    rw [List.append_nil] at L3
    obtain ⟨ja, nums, jn, n0, n1, nal⟩ := L3.ls s j hj
    obtain ⟨jj, rfl⟩ : ∃ jj, j = jj + 2 := ⟨j - 2, by omega⟩
    rw [hs]
    mul_fits
    refine v_idxK L3.at_ (show keyOf (.str s) = some (.inr s) from rfl) (by rw [gD_enc, hj]; rfl) ?_
    mul_fits
    refine pick_w (b := jj) (row := nums.map natD) (by rw [List.length_map]; exact n0) (by rw [List.length_map]; have := o.rz; omega) jn fun xx hxx d4 => ?_
    obtain ⟨nn, hnn, rfl⟩ := List.mem_map.mp hxx
    mul_fits
    refine v_insD (kR2 _) (by omega) (by omega) (le_size (by rw [List.length_map]; omega)) ?_
    have es : ∀ (d : DS) (X : Sto) (i : Nat) (o : Ob), (d.st X).set (i + 2) o = d.st (X.set i o) := fun _ _ _ _ => rfl
    rw [Int.toNat_natCast, es]
    have er : (rows.map rwD).take y ++ [D.tup [natD nn, D.int 1]] ++ (rows.map rwD).drop y = (rows.take y ++ [(nn, 1)] ++ rows.drop y).map rwD := by
      rw [List.map_append, List.map_append, List.map_take, List.map_drop]
      rfl
    rw [er]
    have hzl : zr < X.length := (List.getElem?_eq_some_iff.mp kR).1
    have kR4 : (X.set zr (Ob.lst ((rows.take y ++ [(nn, 1)] ++ rows.drop y).map rwD)))[zr]? = some (.lst ((rows.take y ++ [(nn, 1)] ++ rows.drop y).map rwD)) := List.getElem?_set_self hzl
    have kN4 : (X.set zr (Ob.lst ((rows.take y ++ [(nn, 1)] ++ rows.drop y).map rwD)))[zn]? = some (.lst (nms.map D.str)) := (List.getElem?_set_ne (by omega)).trans kN
    have L4 : LpD b b.rls.length (d4.st (X.set zr (Ob.lst ((rows.take y ++ [(nn, 1)] ++ rows.drop y).map rwD)))) (R.length + 2) ks := by
      rw [← es]
      have := L.st (d' := d4) (g := []) (by omega)
      rw [List.append_nil] at this
      exact this.set (by omega) fun s j hj => by have := hjs s j hj; omega
    have hX4 : ∃ g, X.set zr (Ob.lst ((rows.take y ++ [(nn, 1)] ++ rows.drop y).map rwD)) = R ++ g := by
      obtain ⟨g, rfl⟩ := hX
      exact ⟨_, List.set_append_right _ _ (by omega)⟩
    generalize X.set zr (Ob.lst ((rows.take y ++ [(nn, 1)] ++ rows.drop y).map rwD)) = X4 at kR4 kN4 L4 hX4 ⊢
    have kN5 : (d4.st X4)[zn + 2]? = some (.lst (nms.map D.str)) := kN4
    mul_fits
    try (refine w_withL kN5 ?_; mul_fits)
    refine v_idx kN5 (at_map _ _ _ hy) ?_
    mul_fits
    refine v_insD kN5 (by omega) (by omega) (le_size (by rw [List.length_map]; omega)) ?_
    rw [Int.toNat_natCast, es, hs]
    have en : (nms.map D.str).take y ++ [D.str s] ++ (nms.map D.str).drop y = (nms.take y ++ [s] ++ nms.drop y).map D.str := by
      rw [List.map_append, List.map_append, List.map_take, List.map_drop]
      rfl
    rw [en]
    mul_fits
    have hzl2 : zn < X4.length := (List.getElem?_eq_some_iff.mp kN4).1
    refine ⟨_, .inl rfl, _, _, _, d4, _, _, rfl, rfl, ?_, (List.getElem?_set_ne (by omega)).trans kR4, List.getElem?_set_self hzl2, ?_, tp.ins hse (nal nn hnn), ?_⟩
    · obtain ⟨g, rfl⟩ := hX4
      exact ⟨_, List.set_append_right _ _ (by omega)⟩
    · rw [← es]
      exact L4.set (by omega) fun s j hj => by have := hjs s j hj; omega
    · simp only [List.length_append, List.length_take, List.length_drop, List.length_singleton]
      omega
  · rintro ρ S' ⟨rows, nms, X, d', o10, o11, rfl, rfl, hX, kR, kN, L, tp, hl⟩
    refine ⟨trivial, ?_⟩
    obtain ⟨ts, e1, e2, e3⟩ := tp.parse
    have hl : rows.length = size := by simpa using hl
    obtain ⟨t', rfl⟩ : ∃ t', ts = [t'] := by
      have := e2.len
      match ts, this with
      | [t'], _ => exact ⟨t', rfl⟩
    have wf' : Wf b nm t' := by rw [Wfs] at e2; exact e2.1
    mul_fits
    simp only [b__law_sized_2]
    mul_fits
    refine joined_w (bs := zr + 2) (rows := rows) kR (by omega) e1 (fun p hp => ?_) ?_
    · have := tp.few h3 p hp
      omega
    mul_fits
    obtain ⟨g, rfl⟩ := hX
    refine gc_st2 ((pd_tr t').b _) ?_
    exact h t' d' wf' (by rw [← hl, ← e3, pres, pres, List.append_nil])
end
section
variable {k : Nat} {S : Sto} {Q : D → Sto → Prop} {t y : Ht} {p : List Nat}
theorem part_at_w (hs : t.sub p = some y) (hz : t.pre.length ≤ 5000) (hp : p.length ≤ 5000) (h : Q y.d S) : W (orc T (k + 1) n_part_at [t.d, .tup (p.map natD)] S) Q := by
  refine orc_w (ρ := [some t.d, some (.tup (p.map natD)), none]) rfl rfl rfl ?_
  show W (evSs _ b_part_at _ _) _
  simp only [b_part_at]
  mul_fits
  refine loopS_e natD (fun r ρ S' => ∃ (z : Ht) (o2 : Option D), S' = S ∧ ρ = [some z.d, some (.tup (p.map natD)), o2] ∧ z.sub r = some y) ?_ ?_ p _ _ ⟨t, none, rfl, rfl, hs⟩
  · rintro i r ρ S' ⟨z, o2, rfl, rfl, hz⟩
    refine ⟨trivial, ?_⟩
    simp only [b_part_at_1]
    obtain ⟨y', e1, e2⟩ := Option.bind_eq_some_iff.mp (show (z.kids[i]?).bind (fun y => y.sub r) = some y from hz)
    cases z with
    | hole => simp [Ht.kids] at e1
    | nd n hd ks =>
    have e1 : ks[i]? = some y' := e1
    have ed : (Ht.nd n hd ks).d = .tup (natD n :: (hd ++ [.tup (ks.map Ht.d)])) := by rw [Ht.d, htd_map]
    have k3 : atI (natD n :: (hd ++ [.tup (ks.map Ht.d)])) (-1) = some (.tup (ks.map Ht.d)) := at_last (natD n :: hd) _
    have k4 : atI (ks.map Ht.d) (i : Int) = some y'.d := by
      obtain ⟨q1, q2⟩ := List.getElem?_eq_some_iff.mp e1
      rw [at_map _ _ _ q1, q2]
    rw [ed]
    mul_fits
    try (refine v_idxT k3 ?_)
    mul_fits
    try (refine v_idxT k4 ?_)
    mul_fits
    exact ⟨_, .inl rfl, y', _, rfl, rfl, e2⟩
  · rintro ρ S' ⟨z, o2, rfl, rfl, hz⟩
    refine ⟨trivial, ?_⟩
    have : z = y := by simpa [Ht.sub] using hz
    subst this
    mul_fits
    simp only [b_part_at_2]
    mul_fits
    try rw [gc_same (by rfl)]
    first | exact w_ok h | exact h
end
section
variable {k : Nat} {S : Sto} {Q : D → Sto → Prop} {b : Bk}
theorem hpre_self (z : Ht) : z ∈ z.pre := by
  cases z <;> rw [Ht.pre] <;> simp
theorem hpre_kidM {z y : Ht} {i : Nat} (h : z.kids[i]? = some y) : ∀ x ∈ y.pre, x ∈ z.pre := fun x hx => by
  cases z with
  | hole => simp [Ht.kids] at h
  | nd n hd ks =>
    replace h : ks[i]? = some y := h
    rw [Ht.pre]
    refine List.mem_cons_of_mem _ ?_
    induction ks generalizing i with
    | nil => simp at h
    | cons k ks ih =>
      rw [hpres]
      cases i with
      | zero => cases h; exact List.mem_append_left _ hx
      | succ i => exact List.mem_append_right _ (ih (by simpa using h))
/-- the name at the end of a path -/
def nmAt (b : Bk) : Str → Ht → List Nat → Str
  | nm, _, [] => nm
  | _, t, k :: p => nmAt b (snm b t.num k) ((t.kids[k]?).getD .hole) p
theorem name_at_w {t y : Ht} {p : List Nat} {nm : Str} (hw : Nw b t) (hb : b.rls.length ≤ 100000) (hs : t.sub p = some y) (hp : p.length ≤ 5000) (h : Q (.str (nmAt b nm t p)) S) : W (orc T (k + 5) n_name_at [b.d, .str nm, t.d, .tup (p.map natD)] S) Q := by
  refine orc_w (ρ := [some b.d, some (.str nm), some t.d, some (.tup (p.map natD)), none]) rfl rfl rfl ?_
  show W (evSs _ b_name_at _ _) _
  simp only [b_name_at]
  mul_fits
  refine loopS_e natD (fun r ρ S' => ∃ (z : Ht) (s : Str) (o4 : Option D), S' = S ∧ ρ = [some b.d, some (.str s), some z.d, some (.tup (p.map natD)), o4] ∧ z.sub r = some y ∧ Nw b z ∧ nmAt b s z r = nmAt b nm t p) ?_ ?_ p _ _ ⟨t, nm, none, rfl, rfl, hs, hw, rfl⟩
  · rintro i r ρ S' ⟨z, s, o4, rfl, rfl, hz, nw, en⟩
    refine ⟨trivial, ?_⟩
    obtain ⟨y', e1, e2⟩ := Option.bind_eq_some_iff.mp (show (z.kids[i]?).bind (fun y => y.sub r) = some y from hz)
    rcases nw z (hpre_self z) with rfl | ⟨n, hd, ks, rl, rfl, hr, hkr⟩
    · simp [Ht.kids] at e1
    have e1 : ks[i]? = some y' := e1
    have hil : i < ks.length := (List.getElem?_eq_some_iff.mp e1).1
    have ed : (Ht.nd n hd ks).d = .tup (natD n :: (hd ++ [.tup (ks.map Ht.d)])) := by rw [Ht.d, htd_map]
    have k3 : atI (natD n :: (hd ++ [.tup (ks.map Ht.d)])) (-1) = some (.tup (ks.map Ht.d)) := at_last (natD n :: hd) _
    have k4 : atI (ks.map Ht.d) (i : Int) = some y'.d := by
      obtain ⟨q1, q2⟩ := List.getElem?_eq_some_iff.mp e1
      rw [at_map _ _ _ q1, q2]
    have k5 : atI (natD n :: (hd ++ [.tup (ks.map Ht.d)])) 0 = some (natD n) := at_nat (k := 0) _ (by simp)
    have hn : n < b.rls.length := (List.getElem?_eq_some_iff.mp hr).1
    have ern : b.rls[n] = rl := (List.getElem?_eq_some_iff.mp hr).2
    have k6 : atI (rl.sl.map Sl.d) (i : Int) = some (rl.sl[i]'(by omega)).d := at_map _ _ _ (by omega)
    rw [ed]
    simp only [b_name_at_1]
    mul_fits
    try (refine v_idxT k5 ?_)
    mul_fits
    refine slots_of_w hn ?_
    rw [ern]
    mul_fits
    try (refine v_idxT k6 ?_)
    mul_fits
    try (refine v_idxT k3 ?_)
    mul_fits
    try (refine v_idxT k4 ?_)
    mul_fits
    refine ⟨_, .inl rfl, y', _, _, rfl, rfl, e2, fun x hx => nw x ?_, ?_⟩
    · exact hpre_kidM (z := .nd n hd ks) (i := i) e1 x hx
    · rw [← en, nmAt]
      show _ = nmAt b (snm b n i) ((ks[i]?).getD .hole) r
      rw [e1]
      unfold snm
      rw [rlI_eq hr, List.getElem?_eq_getElem (by omega)]
      rfl
  · rintro ρ S' ⟨z, s, o4, rfl, rfl, hz, nw, en⟩
    refine ⟨trivial, ?_⟩
    have en : s = nmAt b nm t p := en
    subst en
    mul_fits
    simp only [b_name_at_2]
    mul_fits
    try rw [gc_same (by rfl)]
    first | exact w_ok h | exact h
end
section
variable {k : Nat} {S : Sto} {Q : D → Sto → Prop} {b : Bk}
theorem pd_pre {t : Ht} (h : Pd t.d) : ∀ x ∈ t.pre, Pd x.d := fun x hx => by
  obtain ⟨i, hi, rfl⟩ := List.mem_iff_getElem.mp hx
  have hp : i < (paths t).length := by rw [paths_len]; exact hi
  exact pd_sub t _ _ h (paths_sub t i _ _ (List.getElem?_eq_getElem hi) (List.getElem?_eq_getElem hp))
def pnD (t : Ht) : List D := ((paths t).zip t.pre).map fun q => D.tup [pD q.1, q.2.d]
theorem nodes_of_w {t : Ht} (hpt : Pd t.d) (hz : t.pre.length ≤ 3000) (hk : ∀ x ∈ t.pre, x.kids.length ≤ 10) (h : Q (.tup (pnD t)) S) : W (orc T (k + 2) n_nodes_of [t.d] S) Q := by
  refine orc_w (ρ := [some t.d, none, none, none, none]) rfl rfl rfl ?_
  show W (evSs _ b_nodes_of _ _) _
  simp only [b_nodes_of]
  mul_fits
  refine hflat_w hz hk fun G a c ka hB ha => ?_
  mul_fits
  refine paths_of_w hB (by omega) (fun x hx => by have := hk x hx; omega) ?_
  have ka' : (S ++ G ++ [Ob.lst ((paths t).map pD)])[a]? = some (.lst (t.pre.map Ht.d)) := get_pre ka
  have kp : (S ++ G ++ [Ob.lst ((paths t).map pD)])[(S ++ G).length]? = some (.lst ((paths t).map pD)) := get_end _ _
  mul_fits
  rw [List.length_map]
  have bd : bd62 0 ∧ bd62 (t.pre.length : Int) := by unfold bd62; omega
  mul_fits
  rw [rgD0]
  refine ⟨by rw [List.length_map, List.length_range]; exact le_size (by omega), ?_⟩
  refine loopQ_m natD (fun i => D.tup [pD ((paths t).getD i []), (t.pre.getD i .hole).d]) (fun Sz => Sz = S ++ G ++ [Ob.lst ((paths t).map pD)]) _ (fun i hi Sz e => ?_) (fun Sz e => ?_) _ rfl
  · subst e
    refine ⟨trivial, ?_⟩
    have hi := List.mem_range.mp hi
    have hi2 : i < (paths t).length := by rw [paths_len]; exact hi
    have q1 : atI ((paths t).map pD) (i : Int) = some (pD ((paths t).getD i [])) := by
      rw [at_map _ _ _ hi2]
      simp [List.getD, hi2]
    have q2 : atI (t.pre.map Ht.d) (i : Int) = some (t.pre.getD i .hole).d := by
      rw [at_map _ _ _ hi]
      simp [List.getD, hi]
    mul_fits
    exact ⟨rfl, rfl⟩
  subst e
  refine ⟨trivial, ?_⟩
  have el : ((List.range t.pre.length).map fun i => D.tup [pD ((paths t).getD i []), (t.pre.getD i .hole).d]) = pnD t := by
    refine List.ext_getElem (by simp [pnD, paths_len]) fun i h1 h2 => ?_
    have hi : i < t.pre.length := by simpa using h1
    have hi2 : i < (paths t).length := by rw [paths_len]; exact hi
    simp [List.getD, hi, hi2, pnD]
  rw [el]
  mul_fits
  rw [List.append_assoc, gc_app]
  · exact w_ok h
  · refine Pd.b (pd_tup.mpr fun d hd => ?_) _
    obtain ⟨q, hq, rfl⟩ := List.mem_map.mp hd
    have := (List.of_mem_zip hq).2
    exact ⟨pd_nats q.1, pd_pre hpt _ this, trivial⟩
end
theorem nmAt_app {b : Bk} : ∀ (u : List Nat) (nm : Str) (t z : Ht) (k : Nat), t.sub u = some z → nmAt b nm t (u ++ [k]) = snm b z.num k
  | [], nm, t, z, k, h => by cases h; rfl
  | i :: u, nm, t, z, k, h => by
    obtain ⟨y, e1, e2⟩ := Option.bind_eq_some_iff.mp (show (t.kids[i]?).bind (fun y => y.sub u) = some z from h)
    rw [List.cons_append, nmAt, e1]
    exact nmAt_app u _ y z k e2
theorem nml_at {b : Bk} {t : Ht} {nm : Str} : ∀ (i : Nat) (p : List Nat), (paths t)[i]? = some p → (nml b t nm)[i]? = some (nmAt b nm t p) := by
  intro i
  induction i using Nat.strongRecOn with
  | _ i ih =>
  intro p hp
  cases i with
  | zero =>
    rw [paths_zero] at hp
    cases hp
    unfold nml
    rw [hdn_eq]
    rfl
  | succ q =>
    have hq : q + 1 < t.g.pre.length := by
      rw [hg_len, ← paths_len]
      exact (List.getElem?_eq_some_iff.mp hp).1
    obtain ⟨j, y, k, h1, h2, h3, h4⟩ := gparent t.g q hq
    have hj : j < (paths t).length := by
      rw [paths_len, ← hg_len]
      exact (List.getElem?_eq_some_iff.mp h2).1
    have hu : (paths t)[j]? = some (paths t)[j] := List.getElem?_eq_getElem hj
    have hk := pathsG j y k _ h2 hu h3
    obtain ⟨z, z1, rfl, z3, z4⟩ := nml_kid (b := b) (nm := nm) h2 h3
    rw [← h4, hp] at hk
    rw [← h4] at z4
    rw [z4, Option.some.inj hk, nmAt_app _ _ _ z k (paths_sub t j z _ z1 hu)]

section
variable {k : Nat} {S : Sto} {Q : D → Sto → Prop} {b : Bk}
theorem names_right_w {t : Ht} {nm : Str} {pl : Nat} {places : List Nat} (hw : Nw b t) (hb : b.rls.length ≤ 1000) (h3 : ∀ r ∈ b.rls, r.sl.length ≤ 3) (hpt : Pd t.d) (hz : t.pre.length ≤ 3000) (hk : ∀ x ∈ t.pre, x.kids.length ≤ 10) (kP : S[pl]? = some (.lst (places.map natD))) (hpl : ∀ i ∈ places, i < t.pre.length) (h : Q (.bl true) S) :
    W (orc T (k + 6) n__law_names_right [b.d, .str nm, t.d, .ref pl] S) Q := by
  refine orc_w (ρ := [some b.d, some (.str nm), some t.d, some (.ref pl), none, none, none, none]) rfl rfl rfl ?_
  show W (evSs _ b__law_names_right _ _) _
  simp only [b__law_names_right]
  mul_fits
  refine lpaths_w (k := k + 2) (hg_all fun x _ => lparts_ht x) hpt hz hk fun G c hc kc => ?_
  mul_fits
  refine lnames_w hw hb h3 hz hk fun G2 c2 hc2 kc2 => ?_
  mul_fits
  have kP2 : (S ++ G ++ G2)[pl]? = some (.lst (places.map natD)) := get_pre (get_pre kP)
  have kc3 := get_pre (R := G2) kc
  refine w_mayI kP2 ?_
  mul_fits
  refine loopS_re natD (fun r ρ S' => ∃ (o6 o7 : Option D), S' = S ++ G ++ G2 ∧ ρ = [some b.d, some (.str nm), some t.d, some (.ref pl), some (.ref c), some (.ref c2), o6, o7] ∧ ∀ i ∈ r, i < t.pre.length) ?_ ?_ places _ _ ⟨none, none, rfl, rfl, hpl⟩
  · rintro i r ρ S' ⟨o6, o7, rfl, rfl, hr⟩
    refine ⟨kP2, ?_⟩
    have hi := hr i (by simp)
    have hip : i < (paths t).length := by rw [paths_len]; exact hi
    have hin : i < (nml b t nm).length := by rw [nml_len]; exact hi
    have e1 := nml_at (b := b) (nm := nm) i _ (List.getElem?_eq_getElem hip)
    have q1 : atI (((paths t).zip t.pre).map fun q => D.tup [pD q.1, q.2.d]) (i : Int) = some (.tup [pD (paths t)[i], (t.pre[i]).d]) := by
      rw [at_map _ _ _ (by rw [List.length_zip, paths_len]; omega)]
      simp
    have q2 : atI ((nml b t nm).map D.str) (i : Int) = some (.str (nmAt b nm t (paths t)[i])) := by
      rw [at_map _ _ _ hin]
      rw [List.getElem?_eq_getElem hin] at e1
      rw [Option.some.inj e1]
    simp only [b__law_names_right_1]
    mul_fits
    try (refine v_idx kc3 q1 ?_)
    mul_fits
    refine name_at_w hw (by omega) (paths_sub t i _ _ (List.getElem?_eq_getElem hi) (List.getElem?_eq_getElem hip)) (by have := paths_lt hk _ (List.getElem_mem hip); omega) ?_
    mul_fits
    rw [if_neg (by simp)]
    mul_fits
    exact ⟨_, _, rfl, rfl, fun j hj => hr j (by simp [hj])⟩
  · rintro ρ S' ⟨o6, o7, rfl, rfl, hr⟩
    refine ⟨kP2, ?_⟩
    mul_fits
    simp only [b__law_names_right_2]
    mul_fits
    rw [List.append_assoc, gc_app (by simp [below])]
    exact w_ok h
end
mutual
def pth : Ht → List (List Nat × Ht)
  | .nd n hd ks => ([], .nd n hd ks) :: pths 0 ks
  | .hole => [([], .hole)]
def pths : Nat → List Ht → List (List Nat × Ht)
  | _, [] => []
  | k, t :: r => (pth t).map (fun q => (k :: q.1, q.2)) ++ pths (k + 1) r
end
theorem pth_eq (t : Ht) : pth t = ([], t) :: pths 0 t.kids := by
  cases t with
  | nd n hd ks => rw [pth]; rfl
  | hole => rw [pth]; rfl
mutual
theorem pth_snd : ∀ t : Ht, (pth t).map (·.2) = t.pre
  | .nd n hd ks => by rw [pth, Ht.pre, List.map_cons, pths_snd 0 ks]
  | .hole => by rw [pth, Ht.pre]; rfl
theorem pths_snd : ∀ (k : Nat) (ts : List Ht), (pths k ts).map (·.2) = hpres ts
  | _, [] => by rw [pths, hpres]; rfl
  | k, t :: r => by
    rw [pths, hpres, List.map_append, List.map_map, pths_snd (k + 1) r, ← pth_snd t]
    rfl
end
mutual
theorem pth_dn : ∀ (t : Ht) (u : List Nat), t.g.dn (fun _ u k => u ++ [k]) u = (pth t).map fun q => u ++ q.1
  | .nd n hd ks, u => by
    have := pths_dn ks u 0
    rw [show (fun j => u ++ [0 + j]) = fun j => u ++ [j] from funext fun j => by rw [Nat.zero_add]] at this
    rw [gat_eq, hg_kids, pth, List.map_cons, List.append_nil]
    exact congrArg _ this
  | .hole, u => by
    rw [gat_eq, hg_kids, pth, List.map_cons, List.append_nil]
    rfl
theorem pths_dn : ∀ (ts : List Ht) (u : List Nat) (k : Nat), gdns (fun _ u k => u ++ [k]) (ts.map Ht.g) (fun j => u ++ [k + j]) = (pths k ts).map fun q => u ++ q.1
  | [], u, k => by rw [List.map_nil, gdns, pths]; rfl
  | t :: ts, u, k => by
    have h1 := pth_dn t (u ++ [k])
    have h2 := pths_dn ts u (k + 1)
    rw [List.map_cons, gdns, pths, List.map_append, List.map_map]
    have e : (fun j => u ++ [k + (j + 1)]) = fun j => u ++ [k + 1 + j] := funext fun j => by rw [Nat.add_assoc, Nat.add_comm 1 j]
    rw [e, h2]
    congr 1
    rw [Nat.add_zero, h1]
    exact List.map_congr_left fun q _ => by simp
end
theorem pth_fst (t : Ht) : (pth t).map (·.1) = paths t := by
  unfold paths
  rw [pth_dn]
  exact List.map_congr_left fun q _ => rfl
theorem pth_zip (t : Ht) : (paths t).zip t.pre = pth t := (List.zip_of_prod (pth_fst t) (pth_snd t)).symm
theorem pth_len (t : Ht) : (pth t).length = t.pre.length := by rw [← pth_snd, List.length_map]
theorem pth_sub (t : Ht) (i : Nat) (p : List Nat) (x : Ht) (h : (pth t)[i]? = some (p, x)) : t.sub p = some x := by
  refine paths_sub t i x p ?_ ?_
  · rw [← pth_snd, List.getElem?_map, h]; rfl
  · rw [← pth_fst, List.getElem?_map, h]; rfl
def plt : List Nat → List Nat → Bool
  | _, [] => false
  | [], _ :: _ => true
  | a :: p, b :: q => decide (a < b) || (decide (a = b) && plt p q)
theorem plt_irr : ∀ p : List Nat, plt p p = false
  | [] => rfl
  | a :: p => by rw [plt, plt_irr p]; simp
mutual
theorem pth_asc : ∀ t : Ht, ((pth t).map (·.1)).Pairwise fun p q => plt p q = true
  | .nd n hd ks => by
    have h := pths_asc 0 ks
    rw [pth, List.map_cons, List.pairwise_cons]
    refine ⟨fun q hq => ?_, h.1⟩
    obtain ⟨k, r, e, _⟩ := h.2 q hq
    subst e
    rfl
  | .hole => by rw [pth]; simp
theorem pths_asc : ∀ (k : Nat) (ts : List Ht), ((pths k ts).map (·.1)).Pairwise (fun p q => plt p q = true) ∧ ∀ p ∈ (pths k ts).map (·.1), ∃ j r, p = j :: r ∧ k ≤ j
  | k, [] => by rw [pths]; simp
  | k, t :: ts => by
    have h1 := pth_asc t
    have h2 := pths_asc (k + 1) ts
    have hm : ∀ p ∈ ((pth t).map (fun q => (k :: q.1, q.2))).map (·.1), ∃ r, p = k :: r := fun p hp => by
      rw [List.map_map] at hp
      obtain ⟨q, _, rfl⟩ := List.mem_map.mp hp
      exact ⟨q.1, rfl⟩
    rw [pths, List.map_append]
    refine ⟨?_, fun p hp => ?_⟩
    · rw [List.pairwise_append]
      refine ⟨?_, h2.1, fun p hp q hq => ?_⟩
      · have e : ((pth t).map (fun q => (k :: q.1, q.2))).map (·.1) = ((pth t).map (·.1)).map (k :: ·) := by rw [List.map_map, List.map_map]; rfl
        rw [e, List.pairwise_map]
        refine h1.imp fun {p q} h => ?_
        rw [plt, h]
        simp
      · obtain ⟨r, rfl⟩ := hm p hp
        obtain ⟨j, r', rfl, hj⟩ := h2.2 q hq
        rw [plt]
        have : k < j := by omega
        simp [this]
    · rcases List.mem_append.mp hp with hp | hp
      · obtain ⟨r, rfl⟩ := hm p hp
        exact ⟨k, r, rfl, Nat.le_refl _⟩
      · obtain ⟨j, r, e, hj⟩ := h2.2 p hp
        exact ⟨j, r, e, by omega⟩
end
theorem paths_asc (t : Ht) : (paths t).Pairwise fun p q => plt p q = true := by rw [← pth_fst]; exact pth_asc t
theorem paths_nd (t : Ht) : (paths t).Nodup := (paths_asc t).imp fun {p q} h e => by
  subst e
  rw [plt_irr] at h
  cases h
def pP (p : List Nat) : PyData := .tuple (p.map fun (i : Nat) => .int (i : Int))
theorem lt_paths : ∀ p q : List Nat, PySem.W.dataLt (pP p) (pP q) = plt p q
  | [], [] => by unfold pP; rw [PySem.W.dataLt_tuple]; decide
  | [], b :: q => by unfold pP; rw [PySem.W.dataLt_tuple, List.map_cons, PySem.W.toks_all_cons]; rfl
  | a :: p, [] => by unfold pP; rw [PySem.W.dataLt_tuple, List.map_cons, PySem.W.toks_all_cons]; rfl
  | a :: p, b :: q => by
    have ih := lt_paths p q
    unfold pP at ih ⊢
    rw [PySem.W.dataLt_tuple] at ih ⊢
    rw [List.map_cons, List.map_cons, plt]
    by_cases e : a = b
    · subst e
      rw [PySem.W.dataLt_all_yes (by simp [PySem.W.alike]) (by simp [PyData.eqv]), ih]
      simp
    · rw [PySem.W.dataLt_all_no (by simp [PySem.W.alike]) (by simp [PyData.eqv]; omega), PySem.W.dataLt_int]
      by_cases l : a < b <;> simp [l, e]
theorem alike_paths : ∀ p q : List Nat, PySem.W.alikeAll (p.map fun (i : Nat) => PyData.int (i : Int)) (q.map fun (i : Nat) => PyData.int (i : Int)) = true
  | [], q => by cases q <;> simp [PySem.W.alikeAll]
  | a :: p, [] => by simp [PySem.W.alikeAll]
  | a :: p, b :: q => by rw [List.map_cons, List.map_cons, PySem.W.alikeAll, alike_paths p q]; simp [PySem.W.alike]
theorem depth_paths : ∀ p : List Nat, PyData.depthAll (p.map fun (i : Nat) => PyData.int (i : Int)) = 0
  | [] => rfl
  | a :: p => by rw [List.map_cons, PyData.depthAll, depth_paths p]; rfl
theorem cmp_paths (p q : List Nat) : cmpOk (pP p) (pP q) = true := by
  have h1 := alike_paths p q
  have h2 := depth_paths p
  unfold cmpOk pP
  have e1 : PySem.W.alike (.tuple (p.map fun (i : Nat) => PyData.int (i : Int))) (.tuple (q.map fun (i : Nat) => PyData.int (i : Int))) = true := by rw [PySem.W.alike]; exact h1
  have e2 : PyData.depth (.tuple (p.map fun (i : Nat) => PyData.int (i : Int))) = 1 := by rw [PyData.depth, h2]
  rw [e1, e2]
  rfl
theorem toPs_nats (f : Nat → Option PyData) : ∀ p : List Nat, toPsW f (p.map natD) = some (p.map fun (i : Nat) => .int (i : Int))
  | [] => rfl
  | a :: p => by rw [List.map_cons, toPsW, toPs_nats f p]; rfl
theorem toP_path {S : Sto} (p : List Nat) : toP S (pD p) = some (pP p) := by
  unfold toP
  rw [toPW, toPs_nats]
  rfl
def outl (q : List Nat × Ht) : List Nat × Nat × Nat := (q.1, q.2.num, q.2.kids.length)
theorem put_pths : ∀ (j : Nat) (ks : List Ht) (k : Nat) (y z : Ht) (A A' B : List (List Nat × Ht)) (M M' : List (List Nat × Ht)), ks[k]? = some y → pth y = A ++ M ++ B → pth z = A' ++ M' ++ B →
    ∃ C C' E : List (List Nat × Ht), pths j ks = C ++ M.map (fun q => ((j + k) :: q.1, q.2)) ++ E ∧ pths j (ks.set k z) = C' ++ M'.map (fun q => ((j + k) :: q.1, q.2)) ++ E ∧ (A'.map outl = A.map outl → C'.map outl = C.map outl)
  | j, [], k, _, _, _, _, _, _, _, h, _, _ => by simp at h
  | j, t :: ts, 0, y, z, A, A', B, M, M', h, h1, h2 => by
    simp at h
    subst h
    refine ⟨A.map (fun q => (j :: q.1, q.2)), A'.map (fun q => (j :: q.1, q.2)), B.map (fun q => (j :: q.1, q.2)) ++ pths (j + 1) ts, ?_, ?_, fun e => ?_⟩
    · rw [pths, h1]; simp
    · rw [List.set_cons_zero, pths, h2]; simp
    · rw [List.map_map, List.map_map]
      have : ∀ l : List (List Nat × Ht), l.map (outl ∘ fun q => (j :: q.1, q.2)) = (l.map outl).map fun q => (j :: q.1, q.2) := fun l => by rw [List.map_map]; rfl
      rw [this, this, e]
  | j, t :: ts, k + 1, y, z, A, A', B, M, M', h, h1, h2 => by
    obtain ⟨C, C', E, e1, e2, e3⟩ := put_pths (j + 1) ts k y z A A' B M M' (by simpa using h) h1 h2
    have ej : j + 1 + k = j + (k + 1) := by omega
    rw [ej] at e1 e2
    refine ⟨(pth t).map (fun q => (j :: q.1, q.2)) ++ C, (pth t).map (fun q => (j :: q.1, q.2)) ++ C', E, ?_, ?_, fun e => ?_⟩
    · rw [pths, e1]; simp
    · rw [List.set_cons_succ, pths, e2]; simp
    · rw [List.map_append, List.map_append, e3 e]
theorem put_pth : ∀ (p : List Nat) (t y o : Ht), t.sub p = some y → ∃ A A' B : List (List Nat × Ht), pth t = A ++ (pth y).map (fun q => (p ++ q.1, q.2)) ++ B ∧ pth (t.put p o) = A' ++ (pth o).map (fun q => (p ++ q.1, q.2)) ++ B ∧ A'.map outl = A.map outl
  | [], t, y, o, h => by
    rw [Ht.sub] at h
    cases h
    have e1 : t.put [] o = o := by cases t <;> rw [Ht.put]
    exact ⟨[], [], [], by simp, by rw [e1]; simp, rfl⟩
  | k :: p, .hole, y, o, h => by simp [Ht.sub, Ht.kids] at h
  | k :: p, .nd n hd ks, y, o, h => by
    rw [Ht.sub] at h
    obtain ⟨z, e1, e2⟩ := Option.bind_eq_some_iff.mp h
    have e1 : ks[k]? = some z := e1
    obtain ⟨A, A', B, h1, h2, h3⟩ := put_pth p z y o e2
    obtain ⟨C, C', E, q1, q2, q3⟩ := put_pths 0 ks k z (z.put p o) A A' B _ _ e1 h1 h2
    rw [Ht.put, e1]
    refine ⟨([], .nd n hd ks) :: C, ([], .nd n hd (ks.set k (z.put p o))) :: C', E, ?_, ?_, ?_⟩
    · rw [pth, q1, List.map_map]
      simp
    · show pth (.nd n hd (ks.set k (z.put p o))) = _
      rw [pth, q2, List.map_map]
      simp
    · rw [List.map_cons, List.map_cons, q3 h3]
      simp [outl, Ht.num, Ht.kids]
/-- .. found by its number -/
theorem put_at_pth {t y o : Ht} {p : List Nat} {i : Nat} (hp : (paths t)[i]? = some p) (hs : t.sub p = some y) :
    (pth (t.put p o)).map outl = ((pth t).take i ++ (pth o).map (fun q => (p ++ q.1, q.2)) ++ (pth t).drop (i + y.pre.length)).map outl := by
  obtain ⟨A, A', B, h1, h2, h3⟩ := put_pth p t y o hs
  have hA : A.length = i := by
    have h4 : (paths t)[A.length]? = some p := by
      rw [← pth_fst, h1, List.getElem?_map, List.append_assoc, List.getElem?_append_right (Nat.le_refl _), Nat.sub_self, pth_eq]
      simp
    exact (List.getElem?_inj (List.getElem?_eq_some_iff.mp h4).1 (paths_nd t)).mp (h4.trans hp.symm)
  have hl : ((pth y).map (fun q => (p ++ q.1, q.2))).length = y.pre.length := by rw [List.length_map, pth_len]
  rw [h2, h1, ← hA]
  have e1 : (A ++ (pth y).map (fun q => (p ++ q.1, q.2)) ++ B).take A.length = A := by rw [List.append_assoc]; simp
  have e2 : (A ++ (pth y).map (fun q => (p ++ q.1, q.2)) ++ B).drop (A.length + y.pre.length) = B := by
    rw [List.drop_append_of_le_length (by simp [pth_len]), List.drop_eq_nil_of_le (by simp [pth_len])]
    rfl
  rw [e1, e2]
  simp only [List.map_append, h3]

section
variable {k : Nat} {S : Sto} {Q : D → Sto → Prop} {b : Bk}
theorem grow_w {t : Ht} {nm : Str} (A : BkA b) (w : WfH b nm t) (hz : t.pre.length ≤ 1000) (hn : b.nms.length ≤ 1000) (h : Q (webD b t nm) S) : W (orc T (k + 4) n__law_grow [b.d, t.d] S) Q := by
  refine orc_w (ρ := [some b.d, some t.d]) rfl rfl rfl ?_
  show W (evSs _ b__law_grow _ _) _
  simp only [b__law_grow]
  mul_fits
  refine laid_w A w hz hn fun G c kc => ?_
  have ki : atI [webD b t nm, .tup ((SPL b t (v0 b nm)).map nsD)] 0 = some (webD b t nm) := rfl
  mul_fits
  rw [gc_app (show below S.length (webD b t nm) from ⟨trivial, trivial, below_pts _, trivial⟩)]
  exact w_ok h
end
theorem put_mem : ∀ (p : List Nat) (t o : Ht), ∀ x ∈ (t.put p o).pre, (∃ y ∈ t.pre, x.kids.length = y.kids.length ∧ isHole x = isHole y ∧ ∀ n hd ks, x = .nd n hd ks → ∃ ks', y = .nd n hd ks') ∨ x ∈ o.pre
  | [], t, o, x, hx => by
    have e1 : t.put [] o = o := by cases t <;> rw [Ht.put]
    rw [e1] at hx
    exact .inr hx
  | k :: p, .hole, o, x, hx => by
    rw [Ht.put] at hx
    exact .inl ⟨x, hx, rfl, rfl, fun n hd ks e => ⟨ks, e⟩⟩
  | k :: p, .nd n hd ks, o, x, hx => by
    rw [Ht.put] at hx
    cases e : ks[k]? with
    | none =>
      rw [e] at hx
      exact .inl ⟨x, hx, rfl, rfl, fun n hd ks e => ⟨ks, e⟩⟩
    | some z =>
      rw [e] at hx
      have hx : x ∈ (Ht.nd n hd (ks.set k (z.put p o))).pre := hx
      rw [hpre_eq] at hx
      rcases List.mem_cons.mp hx with rfl | hx
      · refine .inl ⟨.nd n hd ks, by rw [hpre_eq]; simp, by simp [Ht.kids], rfl, fun n' hd' ks' e' => ⟨ks, ?_⟩⟩
        cases e'
        rfl
      · have hx : x ∈ hpres (ks.set k (z.put p o)) := hx
        have : ∀ (ks : List Ht) (k : Nat), ks[k]? = some z → x ∈ hpres (ks.set k (z.put p o)) → (∃ y ∈ hpres ks, x.kids.length = y.kids.length ∧ isHole x = isHole y ∧ ∀ n hd ks, x = .nd n hd ks → ∃ ks', y = .nd n hd ks') ∨ x ∈ o.pre := by
          intro ks
          induction ks with
          | nil => intro k h; simp at h
          | cons a ks ih =>
            intro k h hx
            cases k with
            | zero =>
              simp at h
              subst h
              rw [List.set_cons_zero, hpres] at hx
              rw [hpres]
              rcases List.mem_append.mp hx with hx | hx
              · rcases put_mem p a o x hx with ⟨y, h1, h2⟩ | h1
                · exact .inl ⟨y, by simp [h1], h2⟩
                · exact .inr h1
              · exact .inl ⟨x, by simp [hx], rfl, rfl, fun n hd ks e => ⟨ks, e⟩⟩
            | succ k =>
              rw [List.set_cons_succ, hpres] at hx
              rw [hpres]
              rcases List.mem_append.mp hx with hx | hx
              · exact .inl ⟨x, by simp [hx], rfl, rfl, fun n hd ks e => ⟨ks, e⟩⟩
              · rcases ih k (by simpa using h) hx with ⟨y, h1, h2⟩ | h1
                · exact .inl ⟨y, by simp [h1], h2⟩
                · exact .inr h1
        rcases this ks k e hx with ⟨y, h1, h2⟩ | h1
        · exact .inl ⟨y, by rw [hpre_eq]; exact List.mem_cons_of_mem _ h1, h2⟩
        · exact .inr h1
/-- a tree that can be walked and compared -/
structure Hk (u : Ht) : Prop where
  z : u.pre.length ≤ 1200
  kd : ∀ x ∈ u.pre, x.kids.length ≤ 10
  hh : ∀ x ∈ u.pre, ∀ n hd ks, x = .nd n hd ks → hd.length ≤ 5
  dp : ∀ x ∈ u.pre, ∀ n hd ks, x = .nd n hd ks → ∀ d ∈ hd, depD d ≤ 1
  pd : Pd u.d
  ok : okD u.d
theorem Hk.dep {u : Ht} (g : Hk u) : depD u.d ≤ 2400 := by
  have := dep_ht u g.dp
  have := g.z
  omega
theorem Hk.kd3 {u : Ht} (g : Hk u) : ∀ x ∈ u.pre, x.kids.length ≤ 1000 := fun x hx => Nat.le_trans (g.kd x hx) (by decide)
theorem Hk.z3 {u : Ht} (g : Hk u) : u.pre.length ≤ 3000 := Nat.le_trans g.z (by decide)
theorem Hk.z5 {u : Ht} (g : Hk u) : u.pre.length ≤ 5000 := Nat.le_trans g.z (by decide)
theorem Hk.plen {u : Ht} (g : Hk u) {i : Nat} {p : List Nat} (h : (paths u)[i]? = some p) : p.length ≤ 5000 := by
  have := paths_lt g.kd p (List.mem_of_getElem? h)
  have := g.z
  omega
theorem ok_pre {u : Ht} (h : okD u.d) : ∀ x ∈ u.pre, okD x.d := fun x hx => by
  obtain ⟨i, hi⟩ := List.getElem?_of_mem hx
  have hl : i < (paths u).length := by rw [paths_len]; exact (List.getElem?_eq_some_iff.mp hi).1
  have hs := paths_sub u i x _ hi (List.getElem?_eq_getElem hl)
  generalize (paths u)[i] = p at hs
  clear hi hl i hx
  induction p generalizing u with
  | nil => cases hs; exact h
  | cons k p ih =>
    obtain ⟨y, e1, e2⟩ := Option.bind_eq_some_iff.mp (show (u.kids[k]?).bind (fun y => y.sub p) = some x from hs)
    obtain ⟨n, hd, ks, rfl, e3⟩ := kid_nd e1
    exact ih ((hok_nd.mp h).2 y (List.mem_of_getElem? e3)) e2
theorem hpres_ge : ∀ (ks : List Ht) (k : Nat) (y : Ht), ks[k]? = some y → y.pre.length ≤ (hpres ks).length
  | [], k, y, h => by simp at h
  | a :: ks, 0, y, h => by
    simp at h
    subst h
    rw [hpres, List.length_append]
    omega
  | a :: ks, k + 1, y, h => by
    have := hpres_ge ks k y (by simpa using h)
    rw [hpres, List.length_append]
    omega
theorem sub_pre_len : ∀ (p : List Nat) (u x : Ht), u.sub p = some x → x.pre.length ≤ u.pre.length
  | [], u, x, h => by cases h; exact Nat.le_refl _
  | k :: p, u, x, h => by
    obtain ⟨y, e1, e2⟩ := Option.bind_eq_some_iff.mp (show (u.kids[k]?).bind (fun y => y.sub p) = some x from h)
    obtain ⟨n, hd, ks, rfl, e3⟩ := kid_nd e1
    have h1 := sub_pre_len p y x e2
    have h3 := hpres_ge ks k y e3
    have e0 : (Ht.nd n hd ks).pre.length = (hpres ks).length + 1 := by rw [Ht.pre, List.length_cons]
    omega
theorem Hk.sub {u x : Ht} {p : List Nat} (g : Hk u) (h : u.sub p = some x) : Hk x := by
  have hx := sub_pre h
  have := sub_pre_len p u x h
  have := g.z
  exact ⟨by omega, fun y hy => g.kd y (hx y hy), fun y hy => g.hh y (hx y hy), fun y hy => g.dp y (hx y hy), pd_sub u p x g.pd h, ok_pre g.ok x (sub_mem h)⟩
theorem Hk.put {u o : Ht} {p : List Nat} (g : Hk u) (go : Hk o) (h : (u.put p o).pre.length ≤ 1200) : Hk (u.put p o) := by
  refine ⟨h, fun x hx => ?_, fun x hx n hd ks e => ?_, fun x hx n hd ks e => ?_, pd_put u p o g.pd go.pd, ok_put u p o g.ok go.ok⟩
  · rcases put_mem p u o x hx with ⟨y, h1, h2, _⟩ | h1
    · rw [h2]
      exact g.kd y h1
    · exact go.kd x h1
  · rcases put_mem p u o x hx with ⟨y, h1, _, _, h2⟩ | h1
    · obtain ⟨ks', e2⟩ := h2 n hd ks e
      exact g.hh y h1 n hd ks' e2
    · exact go.hh x h1 n hd ks e
  · rcases put_mem p u o x hx with ⟨y, h1, _, _, h2⟩ | h1
    · obtain ⟨ks', e2⟩ := h2 n hd ks e
      exact g.dp y h1 n hd ks' e2
    · exact go.dp x h1 n hd ks e
theorem Hk.hole : Hk .hole := by
  refine ⟨by rw [Ht.pre]; decide, fun x hx => ?_, fun x hx n hd ks e => ?_, fun x hx n hd ks e => ?_, pd_hole, by rw [ht_hole]; trivial⟩
  all_goals (rw [Ht.pre] at hx; rw [List.mem_singleton] at hx; subst hx)
  · simp [Ht.kids]
  · cases e
  · cases e
mutual
theorem ok_tr : ∀ t : Tr, okD t.d
  | .nd n ps => by
    rw [Tr.d]
    exact ⟨trivial, ok_trs ps, trivial⟩
theorem ok_trs : ∀ ps : List Tr, okDs (Trs.d ps)
  | [] => trivial
  | t :: r => ⟨ok_tr t, ok_trs r⟩
end
theorem Hk.tr {t : Tr} (hz : t.pre.length ≤ 1200) (hk : ∀ x ∈ t.pre, x.kids.length ≤ 10) : Hk t.h := by
  refine ⟨by rw [th_pre, List.length_map]; exact hz, fun x hx => ?_, fun x hx n hd ks e => ?_, fun x hx n hd ks e => ?_, by rw [th_d]; exact pd_tr t, by rw [th_d]; exact ok_tr t⟩
  all_goals (rw [th_pre] at hx; obtain ⟨y, hy, rfl⟩ := List.mem_map.mp hx)
  · rw [th_kids, List.length_map]
    exact hk y hy
  · cases y with
    | nd m ps => rw [th_nd] at e; cases e; simp
  · cases y with
    | nd m ps => rw [th_nd] at e; cases e; simp
theorem toP_lst {S : Sto} {i : Nat} {ds : List D} (k : S[i]? = some (.lst ds)) (h : okD (.fix ds)) : ∃ p, toP S (.ref i) = some p ∧ p.canLay0 = true ∧ p.depth = depD (.fix ds) ∧ ∀ f, toPsW f ds = (match p with | .list ps => some ps | _ => none) := by
  obtain ⟨ps, h1, h2, h3⟩ := toPsW_ok ds h
  refine ⟨.list ps, ?_, by rw [PyData.canLay0]; exact h2, by rw [PyData.depth, depD, h3], fun f => h1 f⟩
  show refP S 8 i = _
  rw [refP, k]
  show (toPsW (refP S 7) ds).map _ = _
  rw [h1]
  rfl
theorem dEq_refs {S : Sto} {i j : Nat} {ds : List D} (ki : S[i]? = some (.lst ds)) (kj : S[j]? = some (.lst ds)) (h : okD (.fix ds)) (hd : depD (.fix ds) ≤ 3000) : dEq S (.ref i) (.ref j) = some true := by
  obtain ⟨p, h1, h2, h3, h4⟩ := toP_lst ki h
  obtain ⟨q, g1, g2, g3, g4⟩ := toP_lst kj h
  have e : p = q := by
    have e1 := h4 (fun _ => none)
    have e2 := g4 (fun _ => none)
    rw [e1] at e2
    obtain ⟨ps, z1, _, _⟩ := toPsW_ok ds h
    rw [z1] at e1
    have e4 := g4 (fun _ => none)
    rw [z1] at e4
    cases p <;> simp at e1
    cases q <;> simp at e4
    rw [← e1, ← e4]
  subst e
  have s : shp p = true := by
    unfold shp
    rw [h2, Bool.true_and]
    exact decide_eq_true (by rw [h3]; exact hd)
  unfold dEq
  rw [if_neg (by simp [scalD]), h1, g1]
  simp only [s, Bool.and_self, if_true, SeqAt.eqv_refl p h2]
theorem w_neRefs {S : Sto} {i j : Nat} {ds : List D} {Q : D → Sto → Prop} (ki : S[i]? = some (.lst ds)) (kj : S[j]? = some (.lst ds)) (h : okD (.fix ds)) (hd : depD (.fix ds) ≤ 3000) (q : Q (.bl false) S) : W (cmpD .ne (.ref i) (.ref j) S) Q := by
  simp only [cmpD, dEq_refs ki kj h hd, may_some, W_ok]
  exact q
theorem okD_fix {ds : List D} : okD (.fix ds) ↔ ∀ d ∈ ds, okD d := by rw [okD]; exact okDs_iff
theorem depD_fix {n : Nat} {ds : List D} : depD (.fix ds) ≤ n + 1 ↔ ∀ d ∈ ds, depD d ≤ n := by
  rw [depD, Nat.add_le_add_iff_right]
  exact depDs_le
theorem ok_nats (p : List Nat) : okD (pD p) := okD_tup.mpr fun d hd => by
  obtain ⟨i, _, rfl⟩ := List.mem_map.mp hd
  trivial
theorem dep_nats (p : List Nat) : depD (pD p) ≤ 1 := depD_tup.mpr fun d hd => by
  obtain ⟨i, _, rfl⟩ := List.mem_map.mp hd
  exact Nat.le_refl _
theorem ok_pnD {t : Ht} (g : Hk t) : okD (.fix (pnD t)) := okD_fix.mpr fun d hd => by
  obtain ⟨q, hq, rfl⟩ := List.mem_map.mp hd
  exact okD_tup.mpr fun x hx => by
    rcases List.mem_cons.mp hx with rfl | hx
    · exact ok_nats _
    · rw [List.mem_singleton.mp hx]
      exact ok_pre g.ok _ (List.of_mem_zip hq).2
theorem dep_pnD {t : Ht} (g : Hk t) : depD (.fix (pnD t)) ≤ 3000 := depD_fix.mpr fun d hd => by
  obtain ⟨q, hq, rfl⟩ := List.mem_map.mp hd
  refine depD_tup.mpr fun x hx => ?_
  rcases List.mem_cons.mp hx with rfl | hx
  · exact Nat.le_trans (dep_nats _) (by decide)
  · rw [List.mem_singleton.mp hx]
    obtain ⟨i, hi⟩ := List.getElem?_of_mem (List.of_mem_zip hq).2
    have hl : i < (paths t).length := by rw [paths_len]; exact (List.getElem?_eq_some_iff.mp hi).1
    have := (g.sub (paths_sub t i _ _ hi (List.getElem?_eq_getElem hl))).dep
    omega

section
variable {k : Nat} {S : Sto} {Q : D → Sto → Prop} {b : Bk}
theorem lsteps_w {t : Ht} (g : Hk t) (h : Q (natD t.pre.length) S) : W (orc T (k + 3) n__law_steps [t.d] S) Q := by
  refine orc_w (ρ := [some t.d]) rfl rfl rfl ?_
  show W (evSs _ b__law_steps _ _) _
  simp only [b__law_steps]
  mul_fits
  refine hlflat_w g.z3 g.kd fun G a bb c ka hB kc => ?_
  have ki : atI [D.ref a, D.ref bb] 0 = some (.ref a) := rfl
  mul_fits
  rw [List.length_map, gc_app (by simp [below])]
  exact w_ok h
theorem nodes_right_w {t : Ht} (g : Hk t) (h : Q (.bl true) S) : W (orc T (k + 4) n__law_nodes_right [.tup (pnD t), t.d] S) Q := by
  refine orc_w (ρ := [some (.tup (pnD t)), some t.d, none, none, none]) rfl rfl rfl ?_
  show W (evSs _ b__law_nodes_right _ _) _
  simp only [b__law_nodes_right]
  mul_fits
  refine lpaths_w (k := k) (hg_all fun x _ => lparts_ht x) g.pd g.z3 g.kd fun G c hc kc => ?_
  mul_fits
  have kc' : (S ++ G ++ [Ob.lst (pnD t)])[c]? = some (.lst (pnD t)) := get_pre kc
  refine w_neRefs (ds := pnD t) (get_end _ _) kc' (ok_pnD g) (dep_pnD g) ?_
  mul_fits
  refine lsteps_w g ?_
  mul_fits
  have hl : (pnD t).length = t.pre.length := by
    unfold pnD
    rw [List.length_map, List.length_zip, paths_len, Nat.min_self]
  rw [hl]
  simp only [natD, decide_true, Bool.not_true]
  mul_fits
  simp only [b__law_nodes_right_1]
  mul_fits
  rw [hl]
  have gz := g.z
  have bd : bd62 0 ∧ bd62 (t.pre.length : Int) := by unfold bd62; omega
  mul_fits
  rw [rgD_0]
  refine loopS_re natD (fun r ρ S' => ∃ (i m : Nat) (o3 o4 : Option D), i + m = t.pre.length ∧ r = List.range' i m ∧ S' = S ++ G ++ [Ob.lst (pnD t)] ∧ ρ = [some (.tup (pnD t)), some t.d, some (.ref c), o3, o4]) ?_ ?_ _ _ _ ⟨0, t.pre.length, none, none, by omega, rfl, rfl, rfl⟩
  · rintro i r ρ S' ⟨i', m, o3, o4, him, hr, rfl, rfl⟩
    refine ⟨trivial, ?_⟩
    cases m with
    | zero => exact absurd hr (by simp)
    | succ m =>
    rw [rg'_cons, List.cons.injEq] at hr
    obtain ⟨rfl, rfl⟩ := hr
    have hi : i < t.pre.length := by omega
    have hip : i < (paths t).length := by rw [paths_len]; exact hi
    have q1 : ∀ j (hj : j < t.pre.length), atI (pnD t) (j : Int) = some (.tup [pD ((paths t)[j]'(by rw [paths_len]; exact hj)), (t.pre[j]).d]) := fun j hj => by
      unfold pnD
      rw [at_map _ _ _ (by rw [List.length_zip, paths_len]; omega)]
      simp
    have qi := q1 i hi
    simp only [b__law_nodes_right_2]
    mul_fits
    refine ⟨by rw [List.length_map]; have := g.plen (List.getElem?_eq_getElem hip); exact le_size (by omega), ?_⟩
    refine loopQ_m natD (fun _ => .bl true) (fun Sy => Sy = S ++ G ++ [Ob.lst (pnD t)]) _ (fun r _ Sy e => ?_) (fun Sy e => ?_) _ rfl
    · subst e
      refine ⟨trivial, ?_⟩
      mul_fits
      refine is_int_w ?_
      mul_fits
      exact ⟨rfl, rfl⟩
    subst e
    refine ⟨trivial, ?_⟩
    have eb : ((paths t)[i].map fun _ => D.bl true) = ((paths t)[i].map fun _ => true).map D.bl := by rw [List.map_map]; rfl
    rw [eb]
    refine v_all (ds := ((paths t)[i].map fun _ => true).map D.bl) rfl (bools_map _) ?_
    have ea : ((paths t)[i].map fun _ => true).all id = true := by simp
    rw [ea]
    mul_fits
    simp only [b__law_nodes_right_3]
    mul_fits
    refine w_ifd (fun hi0 => ?_) fun hi0 => ?_
    · have q0 := q1 (i - 1) (by omega)
      have e1 : ((i - 1 : Nat) : Int) = (i : Int) - 1 := by omega
      rw [e1] at q0
      mul_fits
      have hlt : plt ((paths t)[i - 1]'(by omega)) ((paths t)[i]'hip) = true := List.pairwise_iff_getElem.mp (paths_asc t) (i - 1) i (by omega) hip (by omega)
      refine v_ordD (o := .lt) (toP_path _) (toP_path _) (cmp_paths _ _) ?_
      rw [show ordP .lt (pP ((paths t)[i - 1]'(by omega))) (pP ((paths t)[i]'hip)) = true from by show PySem.W.dataLt _ _ = true; rw [lt_paths, hlt]]
      mul_fits
      exact ⟨i + 1, m, _, _, by omega, rfl, rfl, rfl⟩
    · mul_fits
      exact ⟨i + 1, m, _, _, by omega, rfl, rfl, rfl⟩
  · rintro ρ S' ⟨i, m, o3, o4, him, hr, rfl, rfl⟩
    refine ⟨trivial, ?_⟩
    mul_fits
    simp only [b__law_nodes_right_4]
    mul_fits
    rw [List.append_assoc, gc_app (by simp [below])]
    exact w_ok h
end
theorem inD_nats {S : Sto} {a n : Nat} {l : List Nat} (k : S[a]? = some (.lst (l.map natD))) : inD (natD n) (.val (.ref a)) S = some (decide (n ∈ l)) := by
  have e1 : (l.map natD).all flatD = true := by simp [flatD, natD]
  have e2 : ((l.map natD).any fun y => eqF y (natD n)) = decide (n ∈ l) := by
    induction l with
    | nil => rfl
    | cons x l ih =>
      have ih' : ((l.map natD).any fun y => eqF y (natD n)) = decide (n ∈ l) := by
        clear k ih e1
        induction l with
        | nil => rfl
        | cons y l ih2 =>
          rw [List.map_cons, List.any_cons, ih2]
          by_cases c : n = y
          · subst c; simp [eqF, natD]
          · have : (y : Int) ≠ (n : Int) := by omega
            simp [eqF, natD, c, this]
      rw [List.map_cons, List.any_cons, ih']
      by_cases c : n = x
      · subst c; simp [eqF, natD]
      · have : (x : Int) ≠ (n : Int) := by omega
        simp [eqF, natD, c, this]
  unfold inD
  rw [sq_lst k]
  simp only [e1, e2, flatD, natD, Bool.and_true, if_true]
section
variable {k : Nat} {S : Sto} {Q : D → Sto → Prop} {b : Bk}
abbrev prT (p : Str × Tr) : D := .tup [.str p.1, p.2.d]
theorem Wfs.zip {b : Bk} : ∀ {xs : List Str} {ts : List Tr}, Wfs b xs ts → ∀ p ∈ xs.zip ts, Wf b p.1 p.2
  | [], _, _, p, hp => by simp at hp
  | x :: xs, [], h, p, hp => by simp at hp
  | x :: xs, t :: ts, h, p, hp => by
    rw [Wfs] at h
    rw [List.zip_cons_cons] at hp
    rcases List.mem_cons.mp hp with rfl | hp
    · exact h.1
    · exact Wfs.zip h.2 p hp
theorem pres_zip : ∀ {xs : List Str} {ts : List Tr}, ts.length = xs.length → ((xs.zip ts).map fun p => p.2.pre.length).sum = (pres ts).length
  | [], [], _ => rfl
  | x :: xs, t :: ts, h => by
    rw [List.zip_cons_cons, List.map_cons, List.sum_cons, pres_zip (by simpa using h), pres, List.length_append]
  | [], t :: ts, h => by simp at h
  | x :: xs, [], h => by simp at h
theorem pre_pos (t : Tr) : 0 < t.pre.length := by rw [pre_eq]; simp
theorem lis_build_w {t : Tr} {nm : Str} {most : Nat} (w : Wf b nm t) (hr : b.rls.length ≤ 1000) (h3 : ∀ r ∈ b.rls, r.sl.length ≤ 3) (hz : t.pre.length ≤ most) (hm : most ≤ 5000) (h : Q (.bl true) S) : W (orc T (k + 2) n__law_is_build [b.d, .str nm, t.d, natD most] S) Q := by
  refine orc_w (ρ := [some b.d, some (.str nm), some t.d, some (natD most), none, none, none, none, none]) rfl rfl rfl ?_
  show W (evSs _ b__law_is_build _ _) _
  simp only [b__law_is_build]
  mul_fits
  have bd : bd62 0 ∧ bd62 ((most : Int) + 1) := by unfold bd62; omega
  mul_fits
  rw [show ((most : Int) + 1) = ((most + 1 : Nat) : Int) from by omega, rgD_0]
  refine loopS_re natD (fun r ρ S' => ∃ (wt : List (Str × Tr)) (g : Sto) (o5 o6 o7 o8 : Option D), S' = S ++ [.lst (wt.map prT)] ++ g ∧ ρ = [some b.d, some (.str nm), some t.d, some (natD most), some (.ref S.length), o5, o6, o7, o8] ∧ (∀ p ∈ wt, Wf b p.1 p.2) ∧ (wt.map fun p => p.2.pre.length).sum < r.length ∧ r.length ≤ most + 1) ?_ ?_ _ _ _ ⟨[(nm, t)], [], none, none, none, none, by simp, rfl, by simpa using w, by simp; omega, by simp⟩
  · rintro i r ρ S' ⟨wt, g, o5, o6, o7, o8, rfl, rfl, hw, hs, hl⟩
    refine ⟨trivial, ?_⟩
    have kw : ∀ (l : List D) (g : Sto), (S ++ [Ob.lst l] ++ g)[S.length]? = some (.lst l) := fun l g => get_mid _ _ _
    have kw1 := kw (wt.map prT) g
    have hwl : wt.length ≤ (wt.map fun p => p.2.pre.length).sum := by
      clear hw hs kw1
      induction wt with
      | nil => simp
      | cons p wt ih => rw [List.map_cons, List.sum_cons, List.length_cons]; have := pre_pos p.2; omega
    simp only [b__law_is_build_1]
    mul_fits
    rw [List.length_map]
    refine w_ifd (fun c => ?_) fun c => ?_
    · mul_fits
      rw [List.append_assoc, gc_app (by simp [below])]
      exact w_ok h
    mul_fits
    simp only [b__law_is_build_2]
    have hne : wt ≠ [] := fun e => c (by rw [e]; rfl)
    obtain ⟨w', p, rfl⟩ : ∃ w' p, wt = w' ++ [p] := ⟨wt.dropLast, wt.getLast hne, (List.dropLast_concat_getLast hne).symm⟩
    obtain ⟨s, tr⟩ := p
    cases tr with
    | nd n ps =>
    have hwf := hw (s, .nd n ps) (by simp)
    rw [Wf] at hwf
    obtain ⟨rl, e1, e2, e3⟩ := hwf
    have e4 := e3.len
    rw [List.length_map] at e4
    have hn : n < b.rls.length := (List.getElem?_eq_some_iff.mp e1).1
    have ern : b.rls[n] = rl := (List.getElem?_eq_some_iff.mp e1).2
    have hrl3 := h3 rl (List.mem_of_getElem? e1)
    have kat := at_rl hn
    rw [ern] at kat
    have kl : ((w' ++ [(s, Tr.nd n ps)]).map prT)[((w' ++ [(s, Tr.nd n ps)]).map prT).length - 1]? = some (prT (s, .nd n ps)) := by simp
    mul_fits
    refine v_pop kw1 kl ?_
    rw [set_mid, show ((w' ++ [(s, Tr.nd n ps)]).map prT).dropLast = w'.map prT from by simp]
    have edd : (Tr.nd n ps).d = .tup [natD n, .tup (ps.map Tr.d)] := tr_d n ps
    show W (may (bindN _ (.tup [.str s, (Tr.nd n ps).d]) _ _) _) _
    rw [edd]
    mul_fits
    have q0 : atI [natD n, .tup (ps.map Tr.d)] 0 = some (natD n) := rfl
    have q1 : atI [natD n, .tup (ps.map Tr.d)] 1 = some (.tup (ps.map Tr.d)) := rfl
    refine is_int_w ?_
    mul_fits
    simp only [b__law_is_build_3]
    mul_fits
    refine rules_w hr ?_
    have kr : (S ++ [Ob.lst (w'.map prT)] ++ g ++ [.lst ((rlsOf b s).map natD)])[(S ++ [Ob.lst (w'.map prT)] ++ g).length]? = some (.lst ((rlsOf b s).map natD)) := get_end _ _
    have hin := inD_nats (n := n) kr
    rw [decide_eq_true (mem_rlsOf.mpr ⟨rl, e1, e2⟩)] at hin
    refine w_may hin ?_
    mul_fits
    rw [List.length_map, List.length_map, e4]
    simp only [decide_true, Bool.not_true]
    mul_fits
    simp only [b__law_is_build_4]
    mul_fits
    rw [List.length_map, e4]
    have bd3 : bd62 0 ∧ bd62 (rl.sl.length : Int) := by unfold bd62; omega
    mul_fits
    rw [rgD_0]
    generalize hG : g ++ [Ob.lst ((rlsOf b s).map natD)] = G2
    rw [List.append_assoc _ g, hG]
    refine loopS_e natD (fun r' ρ S' => ∃ (j m : Nat) (o8 : Option D), j + m = rl.sl.length ∧ r' = List.range' j m ∧ S' = S ++ [.lst ((w' ++ ((rl.sl.map (·.nm)).zip ps).take j).map prT)] ++ G2 ∧ ρ = [some b.d, some (.str nm), some t.d, some (natD most), some (.ref S.length), some (natD i), some (.str s), some (.tup [natD n, .tup (ps.map Tr.d)]), o8]) ?_ ?_ _ _ _ ⟨0, rl.sl.length, _, by omega, rfl, by simp, rfl⟩
    · rintro j r' ρ S' ⟨j', m, o8, hjm, hr', rfl, rfl⟩
      refine ⟨trivial, ?_⟩
      cases m with
      | zero => exact absurd hr' (by simp)
      | succ m =>
      rw [rg'_cons, List.cons.injEq] at hr'
      obtain ⟨rfl, rfl⟩ := hr'
      have hj : j < rl.sl.length := by omega
      have hj2 : j < ps.length := by omega
      have kw2 := kw ((w' ++ ((rl.sl.map (·.nm)).zip ps).take j).map prT) G2
      have a1 : atI (rl.sl.map Sl.d) (j : Int) = some (rl.sl[j]).d := at_map _ _ _ hj
      have a2 : atI (ps.map Tr.d) (j : Int) = some (ps[j]).d := at_map _ _ _ hj2
      simp only [b__law_is_build_5]
      mul_fits
      refine v_app kw2 (Nat.lt_of_lt_of_le (m := 100000) ?_ (le_size (by decide))) ?_
      · rw [List.length_append, List.length_singleton] at hwl
        simp only [List.length_map, List.length_append, List.length_take, List.length_zip]
        omega
      rw [set_mid]
      mul_fits
      refine ⟨_, .inl rfl, j + 1, m, _, by omega, rfl, ?_, rfl⟩
      congr 4
      have hz' : j < ((rl.sl.map (·.nm)).zip ps).length := by rw [List.length_zip, List.length_map]; omega
      rw [List.take_succ, List.getElem?_eq_getElem hz', Option.toList_some, ← List.append_assoc, List.map_append (l₂ := [_])]
      congr 1
      simp
    · rintro ρ S' ⟨j, m, o8, hjm, hr', rfl, rfl⟩
      refine ⟨trivial, ?_⟩
      cases m with
      | succ m => exact absurd hr' (by simp [rg'_cons])
      | zero =>
      mul_fits
      refine ⟨w' ++ (rl.sl.map (·.nm)).zip ps, G2, _, _, _, _, ?_, rfl, fun p hp => ?_, ?_, ?_⟩
      · rw [List.take_of_length_le (by rw [List.length_zip, List.length_map]; omega)]
      · rcases List.mem_append.mp hp with hp | hp
        · exact hw p (by simp [hp])
        · exact e3.zip p hp
      · rw [List.map_append, List.sum_append, pres_zip (by rw [List.length_map]; exact e4)]
        rw [List.map_append, List.sum_append, List.length_cons] at hs
        simp only [List.map_cons, List.map_nil, List.sum_cons, List.sum_nil, Tr.pre, List.length_cons] at hs
        omega
      · rw [List.length_cons] at hl; omega
  · rintro ρ S' ⟨wt, g, o5, o6, o7, o8, rfl, rfl, hw, hs, hl⟩
    simp at hs
end
mutual
theorem wf_of_h {b : Bk} : ∀ {nm : Str} (t : Tr), WfH b nm t.h → Wf b nm t
  | nm, .nd n ps, h => by
    rw [Tr.h, WfH] at h
    obtain ⟨r, h1, h2, h3⟩ := h
    rw [Wf]
    exact ⟨r, h1, h2, wfs_of_h ps h3⟩
theorem wfs_of_h {b : Bk} : ∀ {xs : List Str} (ts : List Tr), WfHs b xs (trh ts) → Wfs b xs ts
  | [], [], _ => by rw [Wfs]; trivial
  | x :: xs, t :: ts, h => by
    rw [trh, WfHs] at h
    rw [Wfs]
    exact ⟨wf_of_h t h.1, wfs_of_h ts h.2⟩
  | [], _ :: _, h => by simp [trh, WfHs] at h
  | _ :: _, [], h => by simp [trh, WfHs] at h
end
theorem nmAt_wf {b : Bk} : ∀ (p : List Nat) (nm : Str) (t y : Ht), WfH b nm t → t.sub p = some y → WfH b (nmAt b nm t p) y
  | [], nm, t, y, w, h => by cases h; exact w
  | k :: p, nm, t, y, w, h => by
    obtain ⟨z, e1, e2⟩ := Option.bind_eq_some_iff.mp (show (t.kids[k]?).bind (fun y => y.sub p) = some y from h)
    obtain ⟨s, s1, s2⟩ := w.kid e1
    rw [nmAt, e1]
    have : snm b t.num k = s.nm := by unfold snm; rw [s1]; rfl
    rw [this]
    exact nmAt_wf p s.nm z y s2 e2
theorem nmAt_put {b : Bk} {o : Ht} : ∀ (p : List Nat) (nm : Str) (t y : Ht), t.sub p = some y → nmAt b nm (t.put p o) p = nmAt b nm t p
  | [], nm, t, y, h => rfl
  | k :: p, nm, .hole, y, h => by simp [Ht.sub, Ht.kids] at h
  | k :: p, nm, .nd n hd ks, y, h => by
    rw [Ht.sub] at h
    obtain ⟨z, e1, e2⟩ := Option.bind_eq_some_iff.mp h
    have e1 : ks[k]? = some z := e1
    rw [Ht.put, e1, nmAt, nmAt]
    have hk : k < ks.length := (List.getElem?_eq_some_iff.mp e1).1
    show nmAt b (snm b n k) (((ks.set k (z.put p o))[k]?).getD .hole) p = nmAt b (snm b n k) ((ks[k]?).getD .hole) p
    rw [List.getElem?_set_self hk, e1]
    exact nmAt_put p _ z y e2
theorem put_lenE {t y o : Ht} {p : List Nat} {i : Nat} (hp : (paths t)[i]? = some p) (hs : t.sub p = some y) : (t.put p o).pre.length + y.pre.length = t.pre.length + o.pre.length := by
  obtain ⟨A, A', B, h1, h2, h3⟩ := put_pth p t y o hs
  have e1 := congrArg List.length h1
  have e2 := congrArg List.length h2
  have e3 := congrArg List.length h3
  simp only [List.length_append, List.length_map, pth_len] at e1 e2 e3
  omega
section
variable {k : Nat} {S : Sto} {Q : D → Sto → Prop} {b : Bk}
abbrev ptD (q : List Nat × Ht) : D := .tup [pD q.1, q.2.d]
abbrev olD (q : List Nat × Nat × Nat) : D := .tup [pD q.1, natD q.2.1, natD q.2.2]
theorem outlined_w {qs : List (List Nat × Ht)} {x : D} {a : Option Nat} (hq : ∀ q ∈ qs, ∃ n ks, q.2 = .nd n [] ks) (hz : qs.length ≤ 5000) (hx : itOf (.val x) S = some ⟨qs.map ptD, a⟩) (hS : (⟨qs.map ptD, a⟩ : Itv).still S) (h : Q (.ref S.length) (S ++ [.lst ((qs.map outl).map olD)])) : W (orc T (k + 1) n__law_outlined [x] S) Q := by
  refine orc_w (ρ := [some x, none, none]) rfl rfl rfl ?_
  show W (evSs _ b__law_outlined _ _) _
  simp only [b__law_outlined]
  mul_fits
  refine w_may hx ?_
  mul_fits
  refine ⟨by rw [List.length_map]; exact le_size (by omega), ?_⟩
  refine loopQ_m ptD (fun q => olD (outl q)) (fun Sy => Sy = S) _ (fun q hq' Sy e => ?_) (fun Sy e => ?_) _ rfl
  · subst e
    refine ⟨hS, ?_⟩
    obtain ⟨n, ks, e⟩ := hq q hq'
    obtain ⟨p, y⟩ := q
    replace e : y = .nd n [] ks := e
    subst e
    have ed : (Ht.nd n [] ks).d = .tup [natD n, .tup (ks.map Ht.d)] := by rw [ht_d]; rfl
    show W (may (bindN _ (.tup [pD p, (Ht.nd n [] ks).d]) _ _) _) _
    rw [ed]
    have q0 : atI [natD n, .tup (ks.map Ht.d)] 0 = some (natD n) := rfl
    have q1 : atI [natD n, .tup (ks.map Ht.d)] 1 = some (.tup (ks.map Ht.d)) := rfl
    mul_fits
    rw [List.length_map]
    exact ⟨rfl, rfl⟩
  subst e
  refine ⟨hS, ?_⟩
  rw [show (qs.map fun q => olD (outl q)) = (qs.map outl).map olD from by rw [List.map_map]; rfl]
  mul_fits
  rw [gc_out (by simp [below])]
  exact w_ok h
end
theorem cut_drop {l : List D} {m : Nat} : PQ.cutD l (some (m : Int)) none = l.drop m := by
  unfold PQ.cutD
  simp only [HT.sIx]
  rw [if_neg (by omega), Int.toNat_natCast]
  by_cases h : m ≤ l.length
  · rw [Nat.min_eq_left h, List.take_of_length_le (by simp)]
  · rw [Nat.min_eq_right (by omega), Nat.sub_self, List.take_zero, List.drop_of_length_le (by omega)]
section
variable {k : Nat} {R : Sto} {Q : D → Sto → Prop} {d : DS} {b : Bk} {nm : Str}
theorem trh_plain {t : Tr} : ∀ x ∈ t.h.pre, ∃ n ks, x = .nd n [] ks := fun x hx => by
  rw [th_pre] at hx
  obtain ⟨y, hy, rfl⟩ := List.mem_map.mp hx
  cases y with
  | nd n ps => exact ⟨n, _, th_nd n ps⟩
theorem pth_mem {t : Ht} {q : List Nat × Ht} (h : q ∈ pth t) : q.2 ∈ t.pre := by
  rw [← pth_snd]
  exact List.mem_map.mpr ⟨q, h, rfl⟩
theorem draw_nat {m : Nat} (h1 : 0 < m) (h2 : m < 1073741824) (h : ∀ (n : Nat) (d' : DS), n < m → Q (natD n) (d'.st R)) : W (orc T (k + 1) n__law_draw [.ref 1, natD m] (d.st R)) Q := draw_ (by omega) (by omega) fun y d' y0 y1 => by
  obtain ⟨n, rfl⟩ := Int.eq_ofNat_of_zero_le y0
  exact h n d' (by omega)
theorem put_right_w {t : Tr} {place : Nat} (o : LdOk b) (w : Wf b nm t) (hz : t.pre.length ≤ 60) (hpl : place < t.pre.length) (h : ∀ (d' : DS) (G : Sto), Q (.bl true) (d'.st (R ++ G))) :
    W (orc T (k + 8) n__law_put_right [.ref 1, b.d, .str nm, t.d, natD place] (d.st R)) Q := by
  have hr3 : ∀ r ∈ b.rls, r.sl.length ≤ 3 := fun r hr => (o.rl r hr).sl
  have brz := o.rz
  have wh := wfh_of t w
  have kids10 : ∀ {s : Str} {u : Ht}, WfH b s u → ∀ x ∈ u.pre, x.kids.length ≤ 10 := fun {s u} wu x hx => by
    obtain ⟨s', ws⟩ := wu.node x hx
    obtain ⟨n, hd, ks, e, h1, h2, h3⟩ := ws.top
    subst e
    have := hr3 _ (List.mem_of_getElem? h1)
    show ks.length ≤ 10
    omega
  have ktr : ∀ {s : Str} {u : Tr}, Wf b s u → u.pre.length ≤ 1200 → Hk u.h := fun {s u} wu hu => .tr hu fun x hx => by
    have := kids10 (wfh_of u wu) x.h (by rw [th_pre]; exact List.mem_map_of_mem hx)
    rw [th_kids, List.length_map] at this
    exact this
  have g := ktr w (by omega)
  have hzh : t.h.pre.length = t.pre.length := by rw [th_pre, List.length_map]
  rw [← th_d]
  have hpi : place < (paths t.h).length := by rw [paths_len, hzh]; exact hpl
  have hyi : place < t.h.pre.length := by rw [hzh]; exact hpl
  have ep := List.getElem?_eq_getElem hpi
  have ey := List.getElem?_eq_getElem hyi
  generalize hP : (paths t.h)[place] = P at ep
  generalize hY : t.h.pre[place] = y at ey
  have hs := paths_sub t.h place y P ey ep
  obtain ⟨yt, hyt⟩ : ∃ yt : Tr, y = yt.h := by
    have := List.mem_of_getElem? ey
    rw [th_pre] at this
    obtain ⟨z, _, e⟩ := List.mem_map.mp this
    exact ⟨z, e.symm⟩
  have gy := g.sub hs
  have hyl := sub_pre_len P _ _ hs
  rw [hzh] at hyl
  have hyp := hpre_pos y
  have due := nmAt_wf P nm t.h y wh hs
  refine orc_w (ρ := [some (.ref 1), some b.d, some (.str nm), some t.h.d, some (natD place), none, none, none, none, none, none, none, none, none, none]) rfl rfl rfl ?_
  show W (evSs _ b__law_put_right _ _) _
  simp only [b__law_put_right]
  mul_fits
  refine lpaths_w (k := k + 4) (hg_all fun x _ => lparts_ht x) g.pd g.z3 g.kd fun G c hc kc => ?_
  rw [pth_zip] at kc
  have qa : atI ((pth t.h).map fun q => D.tup [pD q.1, q.2.d]) (place : Int) = some (.tup [pD P, y.d]) := by
    have hl : place < (pth t.h).length := by rw [pth_len]; exact hyi
    rw [at_map _ _ _ hl]
    have e1 : ((pth t.h)[place]).1 = P := by
      have := pth_fst t.h
      have e2 : ((pth t.h).map (·.1))[place]? = some P := by rw [this, ep]
      rw [List.getElem?_map, List.getElem?_eq_getElem hl] at e2
      exact Option.some.inj e2
    have e2 : ((pth t.h)[place]).2 = y := by
      have := pth_snd t.h
      have e2 : ((pth t.h).map (·.2))[place]? = some y := by rw [this, ey]
      rw [List.getElem?_map, List.getElem?_eq_getElem hl] at e2
      exact Option.some.inj e2
    rw [e1, e2]
  mul_fits
  refine lnames_w (k := k + 4) (wf_nw wh) (by omega) hr3 g.z3 g.kd fun G2 c2 hc2 kc2 => ?_
  have qn : atI ((nml b t.h nm).map D.str) (place : Int) = some (.str (nmAt b nm t.h P)) := by
    have e1 := nml_at (b := b) (nm := nm) place P ep
    rw [at_map _ _ _ (List.getElem?_eq_some_iff.mp e1).1, (List.getElem?_eq_some_iff.mp e1).2]
  generalize hdue : nmAt b nm t.h P = du at due qn
  mul_fits
  refine lsteps_w (k := k + 4) gy ?_
  have kc3 := get_pre (R := G2) kc
  mul_fits
  rw [List.length_map, pth_len, hzh]
  obtain ⟨room, hroom⟩ : ∃ room : Nat, room = 60 - t.pre.length + y.pre.length := ⟨_, rfl⟩
  rw [show (60 - (t.pre.length : Int) + (y.pre.length : Int)) = (room : Int) from by omega]
  mul_fits
  rw [show (d.st R ++ G ++ G2) = d.st (R ++ G ++ G2) from rfl]
  rw [show (D.int (if (4 : Int) < (room : Int) then 4 else (room : Int))) = natD (min room 4) from by
    unfold natD
    congr 1
    split <;> omega]
  refine pick_w (k := k + 5) (b := (R ++ G ++ G2).length) (row := [natD room, natD (min room 4)]) (by simp) (by simp) (get_end _ _) fun x hx d2 => ?_
  obtain ⟨m, rfl, hm1, hm2⟩ : ∃ m : Nat, x = natD m ∧ 1 ≤ m ∧ m ≤ room := by
    simp only [List.mem_cons, List.not_mem_nil, or_false] at hx
    rcases hx with rfl | rfl
    · exact ⟨room, rfl, by omega, Nat.le_refl _⟩
    · exact ⟨min room 4, rfl, by omega, by omega⟩
  mul_fits
  refine draw_nat (k := k + 6) hm1 (by omega) fun n d3 hn => ?_
  mul_fits
  rw [show (D.int (1 + (n : Int))) = natD (1 + n) from by unfold natD; congr 1]
  have hLR : LR b.rls du := by
    obtain ⟨n', hd', ks', e, h1, h2, h3⟩ := due.top
    have := o.lr _ (List.mem_of_getElem? h1)
    rw [h2] at this
    exact this
  refine sized_w (k := k + 2) o hLR (by omega) fun ot d4 wo hol => ?_
  have go := ktr wo (by omega)
  have hoh : ot.h.pre.length = ot.pre.length := by rw [th_pre, List.length_map]
  rw [← th_d]
  mul_fits
  have hpl5 := g.plen ep
  refine put_at_w (k := k + 6) hs g.z5 g.kd3 hpl5 g.hh g.pd go.pd ?_
  mul_fits
  obtain ⟨t3, ht3⟩ := put_tr P t ot
  have hlen := put_lenE (o := ot.h) ep hs
  have w3h : WfH b nm (t.h.put P ot.h) := by
    have := wfh_of ot wo
    rw [← hdue] at due this
    exact WfH.put P nm t.h y ot.h _ wh hs due this
  have w3 : Wf b nm t3 := wf_of_h t3 (by rw [ht3]; exact w3h)
  have l3 : t3.pre.length = (t.h.put P ot.h).pre.length := by rw [← ht3, th_pre, List.length_map]
  have g3 : Hk (t.h.put P ot.h) := by
    rw [← ht3]
    exact ktr w3 (by omega)
  refine lput_w (k := k + 6) hs g.z5 g.kd3 hpl5 g.hh g.pd go.pd ?_
  refine w_neSelf g3.ok (by have := g3.dep; omega) ?_
  mul_fits
  rw [show (t.h.put P ot.h).d = t3.d from by rw [← ht3, th_d]]
  refine lis_build_w (k := k + 5) (most := 60) w3 (by omega) hr3 (by omega) (by decide) ?_
  mul_fits
  simp only [b__law_put_right_1]
  mul_fits
  refine lpaths_w (k := k + 4) (hg_all fun x _ => lparts_ht x) go.pd go.z3 go.kd fun G5 c5 hc5 kc5 => ?_
  rw [pth_zip] at kc5
  generalize hS5 : d4.st (R ++ G ++ G2 ++ [Ob.lst [natD room, natD (min room 4)]]) ++ G5 = S5 at *
  have kc' : S5[c]? = some (.lst ((pth t.h).map ptD)) := by
    have hc2 : 2 ≤ c := by rw [st_len] at hc; omega
    obtain ⟨c0, rfl⟩ : ∃ c0, c = c0 + 2 := ⟨c - 2, by omega⟩
    rw [← hS5, st_app, st_get]
    rw [show (d.st R ++ G ++ G2) = d.st (R ++ G ++ G2) from rfl, st_get] at kc3
    exact get_pre (get_pre kc3)
  refine w_mayI kc5 ?_
  mul_fits
  refine ⟨by rw [List.length_map, pth_len]; exact le_size (by omega), ?_⟩
  refine loopQ_m ptD (fun q => ptD (P ++ q.1, q.2)) (fun Sy => Sy = S5) _ (fun q hq Sy e => ?_) (fun Sy e => ?_) _ rfl
  · subst e
    refine ⟨kc5, ?_⟩
    have q0 : atI [pD q.1, q.2.d] 0 = some (pD q.1) := rfl
    have q1 : atI [pD q.1, q.2.d] 1 = some q.2.d := rfl
    have hq5 : q.1.length ≤ 5000 := by
      have := pth_fst ot.h
      have hm : q.1 ∈ paths ot.h := by rw [← this]; exact List.mem_map.mpr ⟨q, hq, rfl⟩
      obtain ⟨i, hi⟩ := List.getElem?_of_mem hm
      exact go.plen hi
    mul_fits
    refine v_addT (by rw [List.length_map, List.length_map]; exact le_size (by omega)) ?_
    mul_fits
    rw [← List.map_append]
    exact ⟨rfl, rfl⟩
  subst e
  refine ⟨kc5, ?_⟩
  rw [show ((pth ot.h).map fun q => ptD (P ++ q.1, q.2)) = ((pth ot.h).map fun q => (P ++ q.1, q.2)).map ptD from by rw [List.map_map]; rfl]
  mul_fits
  rw [← th_d t3, ht3]
  refine nodes_of_w (k := k + 5) g3.pd g3.z3 g3.kd ?_
  mul_fits
  have epn : pnD (t.h.put P ot.h) = (pth (t.h.put P ot.h)).map ptD := by
    unfold pnD
    rw [pth_zip]
  rw [epn]
  generalize hM : (pth ot.h).map (fun q => (P ++ q.1, q.2)) = M at *
  have plM : ∀ q ∈ M, ∃ n ks, q.2 = .nd n [] ks := fun q hq => by
    rw [← hM] at hq
    obtain ⟨q', hq', rfl⟩ := List.mem_map.mp hq
    exact trh_plain (t := ot) q'.2 (pth_mem hq')
  refine outlined_w (k := k + 6) (a := none) (fun q hq => ?_) (by rw [pth_len]; omega) rfl trivial ?_
  · have := pth_mem hq
    rw [← ht3] at this
    exact trh_plain _ this
  have kcB := get_pre (R := [Ob.lst (M.map ptD)]) kc'
  have kcC := get_pre (R := [Ob.lst (((pth (t.h.put P ot.h)).map outl).map olD)]) kcB
  have kM := get_pre (R := [Ob.lst (((pth (t.h.put P ot.h)).map outl).map olD)]) (get_end Sy (Ob.lst (M.map ptD)))
  mul_fits
  rw [cut_take, ← List.map_take]
  have kMC := get_pre (R := [Ob.lst (((pth t.h).take place).map ptD)]) kM
  mul_fits
  refine v_addL (get_end _ _) kMC (by rw [← hM]; simp only [List.length_map, List.length_take, pth_len]; exact le_size (by omega)) ?_
  rw [← List.map_append]
  have kcD := get_pre (R := [Ob.lst (((pth t.h).take place ++ M).map ptD)]) (get_pre (R := [Ob.lst (((pth t.h).take place).map ptD)]) kcC)
  mul_fits
  rw [show ((place : Int) + (y.pre.length : Int)) = ((place + y.pre.length : Nat) : Int) from by omega, cut_drop, ← List.map_drop]
  have kA1 := get_pre (R := [Ob.lst (((pth t.h).drop (place + y.pre.length)).map ptD)]) (get_end (Sy ++ [Ob.lst (M.map ptD)] ++ [Ob.lst (((pth (t.h.put P ot.h)).map outl).map olD)] ++ [Ob.lst (((pth t.h).take place).map ptD)]) (Ob.lst (((pth t.h).take place ++ M).map ptD)))
  refine v_addL kA1 (get_end _ _) (by rw [← hM]; simp only [List.length_map, List.length_take, List.length_drop, List.length_append, pth_len]; exact le_size (by omega)) ?_
  rw [← List.map_append]
  mul_fits
  have epo := put_at_pth (o := ot.h) ep hs
  rw [hM] at epo
  generalize hL : (pth t.h).take place ++ M ++ (pth t.h).drop (place + y.pre.length) = L at *
  have plL : ∀ q ∈ L, ∃ n ks, q.2 = .nd n [] ks := fun q hq => by
    rw [← hL] at hq
    rcases List.mem_append.mp hq with hq | hq
    · rcases List.mem_append.mp hq with hq | hq
      · exact trh_plain _ (pth_mem (List.mem_of_mem_take hq))
      · exact plM q hq
    · exact trh_plain _ (pth_mem (List.mem_of_mem_drop hq))
  have hLl : L.length ≤ 5000 := by
    rw [← hL, ← hM]
    simp only [List.length_map, List.length_take, List.length_drop, List.length_append, pth_len]
    omega
  refine outlined_w (k := k + 6) plL hLl (it_lst (get_end _ _)) (get_end _ _) ?_
  have okO : okD (.fix ((L.map outl).map olD)) := okD_fix.mpr fun x hx => by
    obtain ⟨q, _, rfl⟩ := List.mem_map.mp hx
    exact okD_tup.mpr fun z hz => by
      simp only [List.mem_cons, List.not_mem_nil, or_false] at hz
      rcases hz with rfl | rfl | rfl
      · exact ok_nats _
      · trivial
      · trivial
  have dpO : depD (.fix ((L.map outl).map olD)) ≤ 3000 := depD_fix.mpr fun x hx => by
    obtain ⟨q, _, rfl⟩ := List.mem_map.mp hx
    exact depD_tup.mpr fun z hz => by
      simp only [List.mem_cons, List.not_mem_nil, or_false] at hz
      rcases hz with rfl | rfl | rfl
      · exact Nat.le_trans (dep_nats _) (by decide)
      · exact Nat.zero_le _
      · exact Nat.zero_le _
  refine w_neRefs (ds := (L.map outl).map olD) ?_ (get_end _ _) okO dpO ?_
  · rw [← epo]
    exact get_pre (get_pre (get_pre (get_pre (get_pre (get_end _ _)))))
  mul_fits
  simp only [b__law_put_right_2]
  mul_fits
  have hs3 := sub_put t.h P y ot.h hs
  refine part_at_w (k := k + 6) hs3 g3.z5 hpl5 ?_
  mul_fits
  refine w_neSelf go.ok (by have := go.dep; omega) ?_
  mul_fits
  refine name_at_w (k := k + 2) (wf_nw w3h) (by omega) hs3 hpl5 ?_
  rw [nmAt_put P nm t.h y hs, hdue]
  mul_fits
  rw [show (!decide (du = du)) = false from by simp]
  mul_fits
  simp only [b__law_put_right_3]
  mul_fits
  refine put_at_w (k := k + 6) hs3 g3.z5 g3.kd3 hpl5 g3.hh g3.pd gy.pd ?_
  rw [put_put, put_sub _ _ _ hs]
  mul_fits
  refine w_eqSelf g.ok (by have := g.dep; omega) ?_
  mul_fits
  refine put_at_w (k := k + 6) hs g.z5 g.kd3 hpl5 g.hh g.pd gy.pd ?_
  rw [put_sub _ _ _ hs]
  mul_fits
  refine w_eqSelf g.ok (by have := g.dep; omega) ?_
  mul_fits
  rw [← hS5]
  simp only [st_app, List.append_assoc]
  refine gc_st (fun _ => ?_) (h _ _)
  have := h d4 []
  rwa [List.append_nil] at this
end
theorem dig65 : ∀ i < 65, (dig i).length ≤ 2 := by decide +kernel
def renR (f : Str → Str) (r : Rl) : Rl := ⟨f r.nm, r.ms, r.ts, r.sl.map fun s => ⟨f s.nm, s.pl⟩⟩
section
variable {k : Nat} {S : Sto} {Q : D → Sto → Prop} {b : Bk}
theorem renamed_w (o : LdOk b) (h : ∀ (tw : Bk) (f : Str → Str) (ks : List (Str × Str)) (G : Sto) (c e : Nat), S.length ≤ c → (S ++ G)[c]? = some (.lst [tw.d, .ref e]) → (S ++ G)[e]? = some (.dic (encK D.str ks)) → tw.rls = b.rls.map (renR f) → (∀ s ∈ b.nms.map (·.1), gS ks s = some (f s)) → Q (.ref c) (S ++ G)) : W (orc T (k + 1) n__law_renamed [b.d] S) Q := by
  have nz := o.nz
  have rz := o.rz
  refine orc_w (ρ := [some b.d, none, none, none, none, none, none, none, none, none, none]) rfl rfl rfl ?_
  show W (evSs _ b__law_renamed _ _) _
  simp only [b__law_renamed]
  mul_fits
  rw [List.length_map]
  have bd : bd62 0 ∧ bd62 (b.nms.length : Int) := by unfold bd62; omega
  mul_fits
  rw [rgD_0]
  refine loopS_e natD (fun r ρ S' => ∃ (i m : Nat) (ks : List (Str × Str)) (o2 : Option D), i + m = b.nms.length ∧ r = List.range' i m ∧ S' = S ++ [.dic (encK D.str ks)] ∧ ρ = [some b.d, some (.ref S.length), o2, none, none, none, none, none, none, none, none] ∧ ks.length ≤ i ∧ ∀ j (hj : j < b.nms.length), j < i → ∃ x, gS ks (b.nms[j]).1 = some x) ?_ ?_ _ _ _ ⟨0, b.nms.length, [], none, by omega, rfl, rfl, rfl, by simp, fun j _ hj => absurd hj (by omega)⟩
  · rintro i r ρ S' ⟨i', m, ks, o2, him, hr, rfl, rfl, hkl, hks⟩
    refine ⟨trivial, ?_⟩
    cases m with
    | zero => exact absurd hr (by simp)
    | succ m =>
    rw [rg'_cons, List.cons.injEq] at hr
    obtain ⟨rfl, rfl⟩ := hr
    have hi : i < b.nms.length := by omega
    have kd := get_end S (.dic (encK D.str ks))
    have ka : atI (b.nms.map prD) (i : Int) = some (prD b.nms[i]) := at_map _ _ _ hi
    simp only [b__law_renamed_1]
    mul_fits
    rw [List.length_map]
    have hd := dig65 (b.nms.length - i) (by omega)
    have e1 : toString ((b.nms.length : Int) - (i : Int)) = dig (b.nms.length - i) := by
      unfold dig
      rw [show ((b.nms.length : Int) - (i : Int)) = ((b.nms.length - i : Nat) : Int) from by omega]
    refine v_str (by
      have h0 : ((b.nms.length : Int) - (i : Int)).natAbs ≠ 0 := by omega
      have h1 : ((b.nms.length : Int) - (i : Int)).natAbs < 2 ^ 8 := Nat.lt_of_lt_of_le (show _ < 100 by omega) (by decide)
      exact Nat.lt_trans ((Nat.log2_lt h0).mpr h1) (by decide)) ?_
    rw [e1]
    refine v_addS (Nat.le_trans (Nat.add_le_add_left hd _) (le_size (by decide))) ?_
    mul_fits
    refine v_setK kd rfl (by rw [encK_len]; exact Nat.lt_of_lt_of_le (m := 100000) (by omega) (le_size (by decide))) ?_
    rw [set_end, pD_enc]
    mul_fits
    refine ⟨_, .inl rfl, i + 1, m, _, _, by omega, rfl, rfl, rfl, by have := pS_len (b.nms[i]).1 ("Q" ++ dig (b.nms.length - i)) ks; omega, fun j hj hji => ?_⟩
    rw [gS_pS]
    split
    · exact ⟨_, rfl⟩
    · rename_i hne
      by_cases c : j = i
      · subst c; exact absurd rfl hne
      · exact hks j hj (by omega)
  rintro ρ S' ⟨i, m, ks, o2, him, hr, rfl, rfl, hkl, hks⟩
  refine ⟨trivial, ?_⟩
  cases m with
  | succ m => exact absurd hr (by simp [rg'_cons])
  | zero =>
  have hks' : ∀ s ∈ b.nms.map (·.1), gS ks s = some ((gS ks s).getD "") := fun s hs => by
    obtain ⟨p, hp, rfl⟩ := List.mem_map.mp hs
    obtain ⟨j, hj, rfl⟩ := List.mem_iff_getElem.mp hp
    obtain ⟨x, hx⟩ := hks j hj (by omega)
    rw [hx]
    rfl
  generalize hf : (fun s => (gS ks s).getD "") = f at *
  have hks2 : ∀ s ∈ b.nms.map (·.1), gS ks s = some (f s) := fun s hs => by rw [← hf]; exact hks' s hs
  have kd := get_end S (.dic (encK D.str ks))
  have kg : ∀ s ∈ b.nms.map (·.1), gD (encK D.str ks) (.inr s) = some (.str (f s)) := fun s hs => by rw [gD_enc, hks2 s hs]; rfl
  mul_fits
  simp only [b__law_renamed_2]
  mul_fits
  refine ⟨by rw [List.length_map]; exact le_size (by omega), ?_⟩
  refine loopQ_m prD (fun p => prD (f p.1, p.2)) (fun Sy => Sy = S ++ [.dic (encK D.str ks)]) _ (fun p hp Sy e => ?_) (fun Sy e => ?_) _ rfl
  · subst e
    refine ⟨trivial, ?_⟩
    have := kg p.1 (List.mem_map.mpr ⟨p, hp, rfl⟩)
    mul_fits
    exact ⟨rfl, rfl⟩
  subst e
  refine ⟨trivial, ?_⟩
  rw [show (b.nms.map fun p => prD (f p.1, p.2)) = (b.nms.map fun p => (f p.1, p.2)).map prD from by rw [List.map_map]; rfl]
  mul_fits
  refine sort_prs fun ps' hp => ?_
  mul_fits
  generalize hS2 : S ++ [Ob.dic (encK D.str ks)] ++ [Ob.lst (ps'.map prD)] = S2 at *
  have kd2 : ∀ X : Sto, (S2 ++ X)[S.length]? = some (.dic (encK D.str ks)) := fun X => by rw [← hS2]; exact get_pre (get_pre (get_end _ _))
  have kp2 : ∀ X : Sto, (S2 ++ X)[(S ++ [Ob.dic (encK D.str ks)]).length]? = some (.lst (ps'.map prD)) := fun X => by rw [← hS2]; exact get_pre (get_end _ _)
  refine loopS_e Rl.d (fun r ρ S' => ∃ (i m : Nat) (o5 o6 o7 o8 : Option D), i + m = b.rls.length ∧ r = b.rls.drop i ∧ S' = S2 ++ [.lst (((b.rls.take i).map (renR f)).map Rl.d)] ∧ ρ = [some b.d, some (.ref S.length), o2, some (.ref (S ++ [Ob.dic (encK D.str ks)]).length), some (.ref S2.length), o5, o6, o7, o8, none, none]) ?_ ?_ _ _ _ ⟨0, b.rls.length, none, none, none, none, by omega, rfl, rfl, rfl⟩
  · rintro r rs ρ S' ⟨i, m, o5, o6, o7, o8, him, hr, rfl, rfl⟩
    refine ⟨trivial, ?_⟩
    have hi : i < b.rls.length := by
      refine Nat.lt_of_not_le fun hc => ?_
      rw [List.drop_of_length_le hc] at hr
      cases hr
    rw [List.drop_eq_getElem_cons hi, List.cons.injEq] at hr
    obtain ⟨rfl, rfl⟩ := hr
    have hrm := o.mem _ (List.getElem_mem hi)
    have hr3 := (o.rl _ (List.getElem_mem hi)).sl
    have kd3 := kd2 [.lst (((b.rls.take i).map (renR f)).map Rl.d)]
    have kn := kg _ hrm.1
    have kl := get_end S2 (.lst (((b.rls.take i).map (renR f)).map Rl.d))
    simp only [b__law_renamed_3]
    mul_fits
    refine ⟨by rw [List.length_map]; exact le_size (by omega), ?_⟩
    refine loopQ_m Sl.d (fun s => Sl.d ⟨f s.nm, s.pl⟩) (fun Sy => Sy = S2 ++ [.lst (((b.rls.take i).map (renR f)).map Rl.d)]) _ (fun s hs Sy e => ?_) (fun Sy e => ?_) _ rfl
    · subst e
      refine ⟨trivial, ?_⟩
      have kn2 := kg _ (hrm.2 s hs)
      mul_fits
      exact ⟨rfl, rfl⟩
    subst e
    refine ⟨trivial, ?_⟩
    mul_fits
    refine v_app kl (Nat.lt_of_lt_of_le (m := 100000) (by rw [List.length_map, List.length_map, List.length_take]; omega) (le_size (by decide))) ?_
    rw [set_end]
    mul_fits
    refine ⟨_, .inl rfl, i + 1, m - 1, _, _, _, _, by omega, rfl, ?_, rfl⟩
    congr 3
    rw [List.take_succ, List.getElem?_eq_getElem hi, Option.toList_some, List.map_append, List.map_append]
    congr 1
    show _ = [Rl.d _]
    unfold renR Rl.d
    simp [List.map_map, Function.comp_def]
  · rintro ρ S' ⟨i, m, o5, o6, o7, o8, him, hr, rfl, rfl⟩
    refine ⟨trivial, ?_⟩
    have hi : i = b.rls.length := by
      have := congrArg List.length hr
      rw [List.length_nil, List.length_drop] at this
      omega
    subst hi
    rw [List.take_length]
    have kd3 := kd2 [.lst ((b.rls.map (renR f)).map Rl.d)]
    have kp3 := kp2 [.lst ((b.rls.map (renR f)).map Rl.d)]
    have kl := get_end S2 (.lst ((b.rls.map (renR f)).map Rl.d))
    have kt := kg b.top (List.mem_map.mpr ⟨_, o.top, rfl⟩)
    simp only [b__law_renamed_4]
    mul_fits
    rw [gc_out (by simp only [below]; rw [← hS2]; simp)]
    refine w_ok ?_
    have := h ⟨f b.top, ps', b.rls.map (renR f)⟩ f ks ([Ob.dic (encK D.str ks)] ++ [Ob.lst (ps'.map prD)] ++ [Ob.lst ((b.rls.map (renR f)).map Rl.d)] ++ [Ob.lst [Bk.d ⟨f b.top, ps', b.rls.map (renR f)⟩, .ref S.length]]) (S2 ++ [Ob.lst ((b.rls.map (renR f)).map Rl.d)]).length S.length (by rw [← hS2]; simp) (by
      simp only [← List.append_assoc, hS2]
      exact get_end _ _) (by
      simp only [← List.append_assoc, hS2]
      exact get_pre kd3) rfl hks2
    simp only [← List.append_assoc, hS2] at this
    exact this
end
theorem bka_in {b : Bk} (nd : (b.nms.map (·.1)).Nodup) (ar : ∀ p ∈ b.nms, p.2 ≤ 3) (rl : ∀ r ∈ b.rls, RlIn b.nms r) : BkA b := by
  have ge : ∀ {s : Str} {a : Nat}, (s, a) ∈ b.nms → arF b s = a := fun h => by
    unfold arF
    rw [gS_mem nd h]
    rfl
  refine ⟨fun n r hr => ?_, fun r hr => ?_, fun nm => ?_, fun r hr => (rl r hr).ms, fun r hr => (rl r hr).sl, fun r hr => (rl r hr).tl⟩
  · obtain ⟨a, h1, h2, h3⟩ := (rl r (List.mem_of_getElem? hr)).ex
    rw [ge h1]
    refine ⟨fun s hs => ?_, h3⟩
    obtain ⟨a', q1, q2, q3, q4⟩ := h2 s hs
    exact ⟨by rw [ge q1]; exact q2, q3, q4⟩
  · obtain ⟨a, h1, _⟩ := (rl r hr).ex
    exact List.mem_map.mpr ⟨_, h1, rfl⟩
  · unfold arF
    cases e : gS b.nms nm with
    | none => simp
    | some a =>
      have : ∀ (l : List (Str × Nat)) (a : Nat), gS l nm = some a → ∃ p ∈ l, p.2 = a := by
        intro l
        induction l with
        | nil => intro a h; cases h
        | cons p l ih =>
          intro a h
          obtain ⟨j, c⟩ := p
          unfold gS at h
          by_cases z : j = nm
          · rw [if_pos z] at h
            cases h
            exact ⟨(j, _), List.mem_cons_self, rfl⟩
          · rw [if_neg z] at h
            obtain ⟨p, h1, h2⟩ := ih a h
            exact ⟨p, by simp [h1], h2⟩
      obtain ⟨p, h1, h2⟩ := this _ _ e
      have := ar p h1
      simp
      omega
theorem LdOk.bka {b : Bk} (o : LdOk b) : BkA b := bka_in o.tt.nd o.ar o.rl
section
variable {k : Nat} {S : Sto} {Q : D → Sto → Prop} {b : Bk}
theorem cnt6 {t : Ht} {nm : Str} (A : BkA b) (w : WfH b nm t) (hz : t.pre.length ≤ 1000) : cnt_ b t ≤ 6000 := by
  unfold cnt_
  have := sum_bd (f := own b) (c := 6) (l := t.pre) fun y hy => by
    obtain ⟨nm', w'⟩ := w.node y hy
    obtain ⟨n', _, _, rfl, q, _⟩ := w'.top
    exact A.m6 _ (List.mem_of_getElem? q)
  omega
theorem hk_dz {t : Ht} {nm : Str} (A : BkA b) (w : WfH b nm t) (hz : t.pre.length ≤ 1200) {jt us : List Nat} (hj : jt.length = arF b nm) (hu : us.length = cnt_ b t) : Hk (dz b t jt us) := by
  have e := dz_dress A w hj hu
  have hl := dr_len b (tauF (jt ++ us)) t (v0 b nm)
  have hk := dr_klen (b := b) (τ := tauF (jt ++ us)) (v := v0 b nm) (wf_klen A w)
  have hform : ∀ x ∈ (dressT b (tauF (jt ++ us)) t (v0 b nm)).pre, ∀ n hd ks, x = .nd n hd ks → ∃ l : List Nat, hd = [nsD l] := fun x hx n hd ks e => by
    rw [dress_pre] at hx
    obtain ⟨i, hi, rfl⟩ := List.mem_iff_getElem.mp hx
    rw [drL_len] at hi
    obtain ⟨u, hu⟩ := lay_get b t (v0 b nm) hi
    have hx : t.pre[i]? = some t.pre[i] := List.getElem?_eq_getElem hi
    have e2 := List.getElem?_eq_some_iff.mp (drL_get (τ := tauF (jt ++ us)) hx hu)
    rw [e2.2] at e
    generalize t.pre[i] = z at e
    cases z with
    | hole => rw [dressT] at e; cases e
    | nd n' hd' ks' =>
      rw [dressT] at e
      cases e
      exact ⟨_, rfl⟩
  rw [← e] at hl hk hform
  refine ⟨by omega, hk, fun x hx n hd ks e => ?_, fun x hx n hd ks e d hd' => ?_, (okP_dz t jt us).1, (okP_dz t jt us).2⟩
  · obtain ⟨l, rfl⟩ := hform x hx n hd ks e
    simp
  · obtain ⟨l, rfl⟩ := hform x hx n hd ks e
    simp at hd'
    subst hd'
    rw [show (1 : Nat) = 0 + 1 from rfl, depD_tup]
    intro d hd
    obtain ⟨q, _, rfl⟩ := List.mem_map.mp hd
    exact Nat.le_refl _
theorem Hk.wf {t : Tr} {nm : Str} (A : BkA b) (w : Wf b nm t) (hz : t.pre.length ≤ 1200) : Hk t.h := .tr hz fun x hx => by
  have := wf_klen A (wfh_of t w) x.h (by rw [th_pre]; exact List.mem_map_of_mem hx)
  rwa [th_kids, List.length_map] at this
/-- nodes with names, a part taken out -/
theorem Nw.put {t o : Ht} {p : List Nat} (w : Nw b t) (wo : Nw b o) : Nw b (t.put p o) := fun x hx => by
  rcases put_mem p t o x hx with ⟨y, h1, h2, h3, h4⟩ | h1
  · rcases w y h1 with e | ⟨n, hd, ks, r, e, hr, hk⟩
    · left
      subst e
      cases x with
      | hole => rfl
      | nd n hd ks => simp [isHole] at h3
    · right
      cases x with
      | hole => subst e; simp [isHole] at h3
      | nd n' hd' ks' =>
        obtain ⟨ks2, e2⟩ := h4 n' hd' ks' rfl
        rw [e] at e2
        cases e2
        refine ⟨n, hd, ks', r, rfl, hr, ?_⟩
        rw [e] at h2
        have h2 : ks'.length = ks.length := h2
        omega
  · exact wo x h1
theorem Nw.hole : Nw b .hole := fun x hx => by
  rw [Ht.pre, List.mem_singleton] at hx
  exact .inl hx
theorem put_cut {t y o : Ht} {p : List Nat} {i : Nat} (hp : (paths t)[i]? = some p) (hs : t.sub p = some y) : i + y.pre.length ≤ t.pre.length ∧ i + o.pre.length ≤ (t.put p o).pre.length := by
  obtain ⟨A, A', B, h1, h2, h3⟩ := put_pth p t y o hs
  have hA : A.length = i := by
    have h4 : (paths t)[A.length]? = some p := by
      rw [← pth_fst, h1, List.getElem?_map, List.append_assoc, List.getElem?_append_right (Nat.le_refl _), Nat.sub_self, pth_eq]
      simp
    exact (List.getElem?_inj (List.getElem?_eq_some_iff.mp h4).1 (paths_nd t)).mp (h4.trans hp.symm)
  have e1 := congrArg List.length h1
  have e2 := congrArg List.length h2
  have e3 := congrArg List.length h3
  simp only [List.length_append, List.length_map, pth_len] at e1 e2 e3
  omega
theorem nw_dress {t : Ht} {nm : Str} {τ : Nat → Nat} {v : List Nat × Nat} (w : Nw b t) : Nw b (dressT b τ t v) := fun x hx => by
  rw [dress_pre] at hx
  obtain ⟨i, hi, rfl⟩ := List.mem_iff_getElem.mp hx
  rw [drL_len] at hi
  obtain ⟨u, hu⟩ := lay_get b t v hi
  have hx : t.pre[i]? = some t.pre[i] := List.getElem?_eq_getElem hi
  have e2 := List.getElem?_eq_some_iff.mp (drL_get (τ := τ) hx hu)
  rw [e2.2]
  rcases w t.pre[i] (List.getElem_mem hi) with e | ⟨n, hd, ks, r, e, hr, hk⟩
  · rw [e, dressT]; exact .inl rfl
  · rw [e, dressT]
    exact .inr ⟨n, _, _, r, rfl, hr, by rw [dressTs_len]; exact hk⟩
end
/-! ### k13 -/
section
variable {k : Nat} {R : Sto} {Q : D → Sto → Prop} {d : DS} {b : Bk} {nm : Str}
theorem places_w {many : Nat} (h1 : 1 ≤ many) (h2 : many ≤ 1000) (h : ∀ (l : List Nat) (d' : DS), (∀ i ∈ l, i < many) → l.length ≤ 4 → Q (.ref (R.length + 2)) (d'.st (R ++ [.lst (l.map natD)]))) : W (orc T (k + 2) n__law_places [.ref 1, natD many] (d.st R)) Q := by
  refine orc_w (ρ := [some (.ref 1), some (natD many)]) rfl rfl rfl ?_
  show W (evSs _ b__law_places _ _) _
  simp only [b__law_places]
  mul_fits
  refine draw_nat (k := k) (by omega) (by omega) fun n1 d1 hn1 => ?_
  mul_fits
  refine draw_nat (k := k) (by omega) (by omega) fun n2 d2 hn2 => ?_
  mul_fits
  rw [show [D.int 0, D.int ((many : Int) - 1), natD n1, natD n2] = [0, many - 1, n1, n2].map natD from by simp [natD]; omega]
  rw [gc_out (by simp [below, st_len])]
  refine w_ok (h _ _ (fun i hi => ?_) (by simp))
  simp only [List.mem_cons, List.not_mem_nil, or_false] at hi
  omega
theorem law9_w {t : Tr} {o0 o6 o7 o8 o9 o10 o11 o12 o13 o14 o15 o16 o17 o18 o19 : Option D} {S : Sto} (g : Hk t.h) : W (evSs (orc T (k + 11)) b_law_9 [o0, some (.ref 1), some b.d, some (.str nm), some (natD t.pre.length), some t.h.d, o6, o7, o8, o9, o10, o11, o12, o13, o14, o15, o16, o17, o18, o19] S) Good1 := by
  simp only [b_law_9]
  mul_fits
  refine nodes_of_w (k := k + 9) g.pd g.z3 g.kd ?_
  mul_fits
  refine nodes_right_w (k := k + 7) g ?_
  mul_fits
  refine part_at_w (k := k + 10) (p := []) (y := t.h) rfl g.z5 (by simp) ?_
  mul_fits
  refine w_eqSelf g.ok (by have := g.dep; omega) ?_
  mul_fits
  exact good1
theorem law8_w {t : Tr} {o0 o6 o7 o8 o9 o10 o11 o12 o13 o14 o15 o16 o17 o18 o19 : Option D} (o : LdOk b) (w : Wf b nm t) (hz : t.pre.length ≤ 60) : W (evSs (orc T (k + 11)) b_law_8 [o0, some (.ref 1), some b.d, some (.str nm), some (natD t.pre.length), some t.h.d, o6, o7, o8, o9, o10, o11, o12, o13, o14, o15, o16, o17, o18, o19] (d.st R)) Good1 := by
  have A := o.bka
  have hr3 : ∀ r ∈ b.rls, r.sl.length ≤ 3 := fun r hr => (o.rl r hr).sl
  have brz := o.rz
  have nz := o.nz
  have wh := wfh_of t w
  have g := Hk.wf A w (by omega)
  have hzh : t.h.pre.length = t.pre.length := by rw [th_pre, List.length_map]
  have ha3 := A.a3 nm
  have hc6 := cnt6 A wh (by omega)
  have hp := pre_pos t
  simp only [b_law_8]
  mul_fits
  refine grow_w A wh (by omega) (by omega) ?_
  simp only [webD]
  have kms : (stS (mksL b t.h.pre)).length ≤ sizeLine := by
    rw [st_length, mksL_len]
    exact le_size (by show cnt_ b t.h ≤ _; omega)
  mul_fits
  refine draw_nat (m := 3) (by decide) (by decide) fun n1 d1 h1 => ?_
  mul_fits
  refine draw_nat (m := 3) (by decide) (by decide) fun n2 d2 h2 => ?_
  mul_fits
  rw [st_length, mksL_len, show (((arF b nm : Nat) : Int) + (((t.h.pre.map (own b)).sum : Nat) : Int)) = ((arF b nm + cnt_ b t.h : Nat) : Int) from by unfold cnt_; omega]
  refine ⟨_, _, rfl, rfl, by unfold bd62; omega, ?_⟩
  mul_fits
  rw [rgD0]
  refine ⟨by rw [List.length_map, List.length_range]; exact le_size (by omega), ?_⟩
  refine loopQ_e natD natD (fun _ _ => True) (fun S => S = d2.st R) _ (fun q hq S e => ?_) (fun τs S a e => ?_) _ rfl
  · subst e
    refine ⟨trivial, ?_⟩
    have hq := List.mem_range.mp hq
    mul_fits
    refine v_mul (mul_okb (m := 40) (n := 40) (by rw [Int.natAbs_natCast]; exact Nat.lt_of_lt_of_le (show q < 10000 by omega) (by decide)) (by rw [Int.natAbs_natCast]; exact Nat.lt_of_lt_of_le h2 (by decide)) (by decide)) ?_
    mul_fits
    refine ⟨((n1 + q * n2) % 3), ?_, rfl, trivial⟩
    unfold natD
    congr 2
    rw [Int.fmod_eq_emod_of_nonneg _ (by decide)]
    simp
  subst e
  refine ⟨trivial, ?_⟩
  have hτ : τs.length = arF b nm + cnt_ b t.h := by have := a.len; rwa [List.length_range] at this
  clear a
  have hj : (τs.take (arF b nm)).length = arF b nm := by rw [List.length_take]; omega
  have hu : (τs.drop (arF b nm)).length = cnt_ b t.h := by rw [List.length_drop]; omega
  have eD := dz_dress A wh hj hu
  rw [List.take_append_drop] at eD
  have gU := hk_dz A wh (by omega) hj hu
  rw [eD] at gU
  have nU : Nw b (dressT b (tauF τs) t.h (v0 b nm)) := nw_dress (nm := nm) (wf_nw wh)
  have hUl : (dressT b (tauF τs) t.h (v0 b nm)).pre.length = t.pre.length := by rw [dr_len, hzh]
  mul_fits
  refine ldress_w (k := k + 7) A wh (by omega) (by omega) hτ gU.pd ?_
  mul_fits
  refine places_w (k := k + 9) (by omega) (by omega) fun l d3 hl _ => ?_
  mul_fits
  refine names_right_w (k := k + 5) nU (by omega) hr3 gU.pd gU.z3 gU.kd (by rw [st_get]; exact get_end _ _) (fun i hi => by rw [hUl]; exact hl i hi) ?_
  mul_fits
  exact law9_w g
theorem law7_w {t : Tr} {o0 o6 o7 o8 o9 o10 o11 o12 o13 o14 o15 o16 o17 o18 o19 : Option D} (o : LdOk b) (w : Wf b nm t) (hz : t.pre.length ≤ 60) : W (evSs (orc T (k + 11)) b_law_7 [o0, some (.ref 1), some b.d, some (.str nm), some (natD t.pre.length), some t.h.d, o6, o7, o8, o9, o10, o11, o12, o13, o14, o15, o16, o17, o18, o19] (d.st R)) Good1 := by
  have A := o.bka
  have hr3 : ∀ r ∈ b.rls, r.sl.length ≤ 3 := fun r hr => (o.rl r hr).sl
  have brz := o.rz
  have wh := wfh_of t w
  have g := Hk.wf A w (by omega)
  have hzh : t.h.pre.length = t.pre.length := by rw [th_pre, List.length_map]
  simp only [b_law_7]
  mul_fits
  refine w_ifd (fun h2 => ?_) fun h2 => ?_
  · mul_fits
    rw [show ((t.pre.length : Int) - 1) = ((t.pre.length - 1 : Nat) : Int) from by omega]
    refine draw_nat (m := t.pre.length - 1) (by omega) (by omega) fun n1 d1 h1 => ?_
    mul_fits
    rw [show (D.int (1 + (n1 : Int))) = natD (1 + n1) from by unfold natD; congr 1]
    generalize hat : 1 + n1 = at_
    have hal : at_ < t.h.pre.length := by omega
    have hap : at_ < (paths t.h).length := by rw [paths_len]; exact hal
    have ep := List.getElem?_eq_getElem hap
    have ey := List.getElem?_eq_getElem hal
    have qa : ∀ (l : List D), l = (pth t.h).map ptD → atI l (at_ : Int) = some (.tup [pD (paths t.h)[at_], (t.h.pre[at_]).d]) := fun l el => by
      subst el
      rw [← pth_zip, at_map _ _ _ (by rw [List.length_zip, paths_len]; omega)]
      simp
    generalize (paths t.h)[at_] = P at ep qa
    generalize t.h.pre[at_] = y at ey qa
    have hs := paths_sub t.h at_ y P ey ep
    have hpl5 := g.plen ep
    have gy := g.sub hs
    have hcut := put_cut (o := .hole) ep hs
    have hlen := put_lenE (o := .hole) ep hs
    have hh1 : (Ht.hole).pre.length = 1 := by rw [Ht.pre]; rfl
    have hyp := hpre_pos y
    rw [hzh] at hcut hlen
    rw [hh1] at hcut hlen
    have gH : Hk (t.h.put P .hole) := g.put .hole (by omega)
    have nH : Nw b (t.h.put P .hole) := (wf_nw wh).put .hole
    mul_fits
    refine lpaths_w (k := k + 8) (hg_all fun x _ => lparts_ht x) g.pd g.z3 g.kd fun G c hc kc => ?_
    rw [pth_zip] at kc
    have qa1 := qa _ rfl
    mul_fits
    rw [← ht_hole]
    refine lput_w (k := k + 10) hs g.z5 g.kd3 hpl5 g.hh g.pd pd_hole ?_
    mul_fits
    refine lpaths_w (k := k + 8) (hg_all fun x _ => lparts_ht x) g.pd g.z3 g.kd fun G2 c2 hc2 kc2 => ?_
    rw [pth_zip] at kc2
    mul_fits
    refine lsteps_w (k := k + 8) gy ?_
    mul_fits
    rw [show ((t.pre.length : Int) - (y.pre.length : Int) + 1) = ((t.h.put P .hole).pre.length : Int) from by omega]
    rw [show (d1.st R ++ G ++ G2) = d1.st (R ++ G ++ G2) from rfl]
    refine places_w (k := k + 9) (by omega) (by omega) fun l d3 hl h4 => ?_
    have kl : (d3.st (R ++ G ++ G2 ++ [Ob.lst (l.map natD)]))[(R ++ G ++ G2).length + 2]? = some (.lst (l.map natD)) := by rw [st_get]; exact get_end _ _
    mul_fits
    refine w_ask (by rw [List.length_map]; exact le_size (by simp; omega)) ?_
    mul_fits
    rw [show ([natD at_] ++ l.map natD) = (at_ :: l).map natD from rfl]
    refine names_right_w (k := k + 5) nH (by omega) hr3 gH.pd gH.z3 gH.kd (get_end _ _) (fun i hi => ?_) ?_
    · rcases List.mem_cons.mp hi with rfl | hi
      · omega
      · exact hl i hi
    mul_fits
    exact law8_w o w hz
  · mul_fits
    exact law8_w o w hz
theorem law5_w {t : Tr} {o0 o6 o7 o8 o9 o10 o11 o12 o13 o14 o15 o16 o17 o18 o19 : Option D} (o : LdOk b) (w : Wf b nm t) (hz : t.pre.length ≤ 60) : W (evSs (orc T (k + 11)) b_law_5 [o0, some (.ref 1), some b.d, some (.str nm), some (natD t.pre.length), some t.h.d, o6, o7, o8, o9, o10, o11, o12, o13, o14, o15, o16, o17, o18, o19] (d.st R)) Good1 := by
  have hp := pre_pos t
  simp only [b_law_5]
  mul_fits
  refine places_w (k := k + 9) (by omega) (by omega) fun l d1 hl h4 => ?_
  have kl : (d1.st (R ++ [Ob.lst (l.map natD)]))[R.length + 2]? = some (.lst (l.map natD)) := by rw [st_get]; exact get_end _ _
  mul_fits
  refine draw_nat (m := 3) (by decide) (by decide) fun n1 d2 h1 => ?_
  have kl2 : (d2.st (R ++ [Ob.lst (l.map natD)]))[R.length + 2]? = some (.lst (l.map natD)) := by rw [st_get]; exact get_end _ _
  mul_fits
  rw [cut_drop, ← List.map_drop]
  refine w_mayI (get_end _ _) ?_
  mul_fits
  rw [show (d2.st (R ++ [Ob.lst (l.map natD)]) ++ [Ob.lst ((l.drop n1).map natD)]) = d2.st (R ++ [Ob.lst (l.map natD)] ++ [Ob.lst ((l.drop n1).map natD)]) from rfl, show (d2.st (R ++ [Ob.lst (l.map natD)])).length = (R ++ [Ob.lst (l.map natD)]).length + 2 from rfl]
  generalize hR2 : R ++ [Ob.lst (l.map natD)] ++ [Ob.lst ((l.drop n1).map natD)] = R2
  have kR : ∀ (d' : DS) (G : Sto), (d'.st (R2 ++ G))[(R ++ [Ob.lst (l.map natD)]).length + 2]? = some (.lst ((l.drop n1).map natD)) := fun d' G => by
    rw [st_get, ← hR2]
    exact get_pre (get_end _ _)
  refine loopS_re natD (fun r ρ S' => ∃ (d' : DS) (G : Sto) (o11 : Option D), S' = d'.st (R2 ++ G) ∧ ρ = [o0, some (.ref 1), some b.d, some (.str nm), some (natD t.pre.length), some t.h.d, o6, o7, o8, o9, o10, o11, o12, o13, o14, o15, o16, o17, o18, o19] ∧ ∀ i ∈ r, i < t.pre.length) ?_ ?_ _ _ _ ⟨d2, [], _, by rw [List.append_nil], rfl, fun i hi => hl i (List.mem_of_mem_drop hi)⟩
  · rintro i r ρ S' ⟨d', G, o11', rfl, rfl, hr⟩
    refine ⟨kR d' G, ?_⟩
    simp only [b_law_6]
    mul_fits
    rw [th_d]
    refine put_right_w (k := k + 3) o w hz (hr i (by simp)) fun d'' G' => ?_
    mul_fits
    exact ⟨d'', G ++ G', _, by rw [← List.append_assoc], rfl, fun j hj => hr j (by simp [hj])⟩
  · rintro ρ S' ⟨d', G, o11', rfl, rfl, hr⟩
    refine ⟨kR d' G, ?_⟩
    mul_fits
    exact law7_w o w hz
theorem law4_w {t : Tr} {o0 o6 o7 o8 o9 o10 o11 o12 o13 o14 o15 o16 o17 o18 o19 : Option D} (o : LdOk b) (w : Wf b nm t) (hz : t.pre.length ≤ 60) : W (evSs (orc T (k + 11)) b_law_4 [o0, some (.ref 1), some b.d, some (.str nm), some (natD t.pre.length), some t.h.d, o6, o7, o8, o9, o10, o11, o12, o13, o14, o15, o16, o17, o18, o19] (d.st R)) Good1 := by
  have A := o.bka
  have hr3 : ∀ r ∈ b.rls, r.sl.length ≤ 3 := fun r hr => (o.rl r hr).sl
  have brz := o.rz
  have wh := wfh_of t w
  have g := Hk.wf A w (by omega)
  have hzh : t.h.pre.length = t.pre.length := by rw [th_pre, List.length_map]
  have hp := pre_pos t
  simp only [b_law_4]
  mul_fits
  refine renamed_w (k := k + 10) o fun tw f ks G c e hc kc ke htw hks => ?_
  refine w_may (show bindN (.tup [9, 10]) (.ref c) _ _ = some [o0, some (.ref 1), some b.d, some (.str nm), some (natD t.pre.length), some t.h.d, o6, o7, o8, some tw.d, some (.ref e), o11, o12, o13, o14, o15, o16, o17, o18, o19] from by simp only [bindN, sq_lst kc, Option.bind_some]; rfl) ?_
  have hnm : nm ∈ b.nms.map (·.1) := by
    obtain ⟨n', hd', ks', e', h1, h2, h3⟩ := wh.top
    have := (o.mem _ (List.mem_of_getElem? h1)).1
    rw [h2] at this
    exact this
  have kg : gD (encK D.str ks) (.inr nm) = some (.str (f nm)) := by rw [gD_enc, hks nm hnm]; rfl
  mul_fits
  rw [show (d.st R ++ G) = d.st (R ++ G) from rfl]
  refine places_w (k := k + 9) (by omega) (by omega) fun l d1 hl h4 => ?_
  have kl : (d1.st (R ++ G ++ [Ob.lst (l.map natD)]))[(R ++ G).length + 2]? = some (.lst (l.map natD)) := by rw [st_get]; exact get_end _ _
  have nT : Nw tw t.h := fun y hy => by
    rcases wf_nw wh y hy with e | ⟨n, hd, ks, r, e, hr, hk⟩
    · exact .inl e
    · refine .inr ⟨n, hd, ks, renR f r, e, ?_, ?_⟩
      · rw [htw, List.getElem?_map, hr]; rfl
      · unfold renR
        rw [List.length_map]
        exact hk
  have hT3 : ∀ r ∈ tw.rls, r.sl.length ≤ 3 := fun r hr => by
    rw [htw] at hr
    obtain ⟨r', h1, rfl⟩ := List.mem_map.mp hr
    unfold renR
    rw [List.length_map]
    exact hr3 r' h1
  mul_fits
  refine names_right_w (k := k + 5) nT (by rw [htw, List.length_map]; omega) hT3 g.pd g.z3 g.kd kl (fun i hi => by rw [hzh]; exact hl i hi) ?_
  mul_fits
  exact law5_w o w hz
theorem law1_w {t : Tr} {o0 o6 o7 o8 o9 o10 o11 o12 o13 o14 o15 o16 o17 o18 o19 : Option D} (o : LdOk b) (w : Wf b nm t) (hz : t.pre.length ≤ 60) : W (evSs (orc T (k + 11)) b_law_1 [o0, some (.ref 1), some b.d, some (.str nm), some (natD t.pre.length), some t.h.d, o6, o7, o8, o9, o10, o11, o12, o13, o14, o15, o16, o17, o18, o19] (d.st R)) Good1 := by
  have A := o.bka
  have hr3 : ∀ r ∈ b.rls, r.sl.length ≤ 3 := fun r hr => (o.rl r hr).sl
  have brz := o.rz
  have wh := wfh_of t w
  have g := Hk.wf A w (by omega)
  have hzh : t.h.pre.length = t.pre.length := by rw [th_pre, List.length_map]
  have hp := pre_pos t
  simp only [b_law_1]
  mul_fits
  refine lpaths_w (k := k + 8) (hg_all fun x _ => lparts_ht x) g.pd g.z3 g.kd fun G c hc kc => ?_
  rw [pth_zip] at kc
  refine w_mayI kc ?_
  mul_fits
  refine loopS_re ptD (fun r ρ S' => ∃ (o6 o7 o8 : Option D), S' = d.st R ++ G ∧ ρ = [o0, some (.ref 1), some b.d, some (.str nm), some (natD t.pre.length), some t.h.d, o6, o7, o8, o9, o10, o11, o12, o13, o14, o15, o16, o17, o18, o19] ∧ ∀ q ∈ r, q ∈ pth t.h) ?_ ?_ _ _ _ ⟨_, _, _, rfl, rfl, fun q hq => hq⟩
  · rintro q r ρ S' ⟨o6', o7', o8', rfl, rfl, hr⟩
    refine ⟨kc, ?_⟩
    obtain ⟨i, hi⟩ := List.getElem?_of_mem (hr q (by simp))
    have hs := pth_sub t.h i q.1 q.2 hi
    have ep : (paths t.h)[i]? = some q.1 := by rw [← pth_fst, List.getElem?_map, hi]; rfl
    have gy := g.sub hs
    obtain ⟨n, ks, e⟩ := trh_plain q.2 (pth_mem (hr q (by simp)))
    have ed : q.2.d = .tup [natD n, .tup (ks.map Ht.d)] := by rw [e, ht_d]; rfl
    simp only [b_law_2]
    mul_fits
    refine part_at_w (k := k + 10) hs g.z5 (g.plen ep) ?_
    mul_fits
    refine w_neSelf gy.ok (by have := gy.dep; omega) ?_
    rw [ed]
    mul_fits
    exact ⟨_, _, _, rfl, rfl, fun q hq => hr q (by simp [hq])⟩
  rintro ρ S' ⟨o6', o7', o8', rfl, rfl, hr⟩
  refine ⟨kc, ?_⟩
  mul_fits
  simp only [b_law_3]
  mul_fits
  rw [rgD0]
  refine names_right_w (k := k + 5) (wf_nw wh) (by omega) hr3 g.pd g.z3 g.kd (get_end _ _) (fun i hi => by rw [hzh]; exact List.mem_range.mp hi) ?_
  mul_fits
  rw [show (d.st R ++ G ++ [Ob.lst ((List.range t.pre.length).map fun (k : Nat) => D.int (k : Int))]) = d.st (R ++ G ++ [Ob.lst ((List.range t.pre.length).map fun (k : Nat) => D.int (k : Int))]) from rfl]
  exact law4_w o w hz
end
theorem gS_of_mem {α : Type} : ∀ {ks : List (Str × α)} {s : Str}, s ∈ ks.map (·.1) → ∃ j, gS ks s = some j
  | [], s, h => by simp at h
  | (x, a) :: ks, s, h => by
    unfold gS
    by_cases c : x = s
    · exact ⟨a, by rw [if_pos c]⟩
    · rw [if_neg c]
      rw [List.map_cons] at h
      rcases List.mem_cons.mp h with e | h
      · exact absurd e.symm c
      · exact gS_of_mem h
theorem law_w {k : Nat} {ns : List Int} (hl : ns.length ≤ 63) : W (orc T (k + 12) n_law [.fix (ns.map .int)] []) fun d _ => d = .bl true := by
  refine orc_w (ρ := [some (.fix (ns.map .int)), none, none, none, none, none, none, none, none, none, none, none, none, none, none, none, none, none, none, none]) rfl rfl rfl ?_
  show W (evSs _ b_law _ _) Good1
  simp only [b_law]
  mul_fits
  refine begin_w rfl hl ?_
  mul_fits
  refine land_w (k := k + 5) (R := []) fun b d1 o => ?_
  have brz := o.rz
  have hr3 : ∀ r ∈ b.rls, r.sl.length ≤ 3 := fun r hr => (o.rl r hr).sl
  mul_fits
  refine loops_w (k := k + 10) (by omega) hr3 o.ok fun ks G L => ?_
  mul_fits
  refine w_may (so_dic L.at_ (xs := ks.map (·.1)) (by unfold encK; rw [List.map_map, List.map_map]; rfl)) ?_
  refine v_sortS ?_
  mul_fits
  have hperm := List.mergeSort_perm (ks.map (·.1)) (PySem.W.dataLe false PyData.str)
  have hk0 : 0 < ks.length := by
    obtain ⟨r, hr⟩ := List.exists_mem_of_length_pos o.r0
    obtain ⟨_, x, hx, h1, h2⟩ := o.lr r hr
    obtain ⟨i, hi⟩ := List.getElem?_of_mem hx
    have := L.all i (List.getElem?_eq_some_iff.mp hi).1 r.nm ⟨x, hi, h1, by rw [h2]⟩
    cases ks with
    | nil => simp [gS] at this
    | cons => simp
  have hkl := L.len
  rw [show (d1.st [] ++ G) = d1.st ([] ++ G) from rfl, st_app, show (d1.st ([] ++ G)).length = ([] ++ G).length + 2 from rfl]
  refine pick_w (k := k + 9) (by rw [List.length_map, hperm.length_eq, List.length_map]; exact hk0) (by rw [List.length_map, hperm.length_eq, List.length_map]; omega) (get_end _ _) fun x hx d2 => ?_
  obtain ⟨nm, hnm, rfl⟩ := List.mem_map.mp hx
  have hLR : LR b.rls nm := by
    obtain ⟨j, hj⟩ := gS_of_mem (hperm.mem_iff.mp hnm)
    obtain ⟨_, nums, _, h0, _, h1⟩ := L.ls nm j hj
    obtain ⟨i, hi⟩ := List.exists_mem_of_length_pos h0
    obtain ⟨r, hr, e, _⟩ := h1 i hi
    have := o.lr r (List.mem_of_getElem? hr)
    rw [e] at this
    exact this
  mul_fits
  refine draw_nat (k := k + 10) (m := 12) (by decide) (by decide) fun n1 d3 h1 => ?_
  mul_fits
  refine draw_nat (k := k + 10) (m := 12) (by decide) (by decide) fun n2 d4 h2 => ?_
  mul_fits
  refine draw_nat (k := k + 10) (m := 40) (by decide) (by decide) fun n3 d5 h3 => ?_
  mul_fits
  generalize hR : ([] ++ G ++ [Ob.lst (((ks.map (·.1)).mergeSort (PySem.W.dataLe false PyData.str)).map D.str)] : Sto) = R
  rw [show ∀ l : List D, (d5.st R ++ [Ob.lst l]) = d5.st (R ++ [Ob.lst l]) from fun _ => rfl, show (d5.st R).length = R.length + 2 from rfl]
  refine pick_w (k := k + 9) (by simp) (by simp) (get_end _ _) fun x hx d6 => ?_
  obtain ⟨size, rfl, z1, z2⟩ : ∃ size : Nat, x = natD size ∧ 1 ≤ size ∧ size ≤ 60 := by
    simp only [List.mem_cons, List.not_mem_nil, or_false] at hx
    rcases hx with rfl | rfl | rfl | rfl | rfl | rfl
    · exact ⟨1, rfl, by decide, by decide⟩
    · exact ⟨2, rfl, by decide, by decide⟩
    · exact ⟨3, rfl, by decide, by decide⟩
    · exact ⟨1 + n1, rfl, by omega, by omega⟩
    · exact ⟨1 + n2, rfl, by omega, by omega⟩
    · exact ⟨60 - n3, by unfold natD; congr 1; omega, by omega, by omega⟩
  mul_fits
  refine sized_w (k := k + 6) o hLR ⟨z1, by omega⟩ fun t d7 w hz => ?_
  subst hz
  have g := Hk.wf o.bka w (by omega)
  rw [← th_d]
  mul_fits
  refine nodes_of_w (k := k + 9) g.pd g.z3 g.kd ?_
  mul_fits
  refine nodes_right_w (k := k + 7) g ?_
  mul_fits
  exact law1_w o w z2
theorem law_true : ∀ ns : List Int, ns.length ≤ 63 → ∃ S, orc T (20 + 1) n_law [.fix (ns.map .int)] [] = .ok (.bl true) S := fun ns h => by
  obtain ⟨a, S, e, q⟩ := law_w (k := 9) h
  subst q
  exact ⟨S, e⟩
end K13
end
open PySem PySem.W PySem.Calls PyProof.Rows
set_option maxHeartbeats 0 in
theorem PySem.Challenge.cw_everygrown_k13_paths_and_parts_holds : PySem.Challenge.rw_everygrown_k13_paths_and_parts.Holds := by
  w_on; o_law
  refine HandSHeadRun.head_any (r := OpenLaw.row PySem.Challenge.rw_everygrown_k13_paths_and_parts) (q := view (OpenLaw.row PySem.Challenge.rw_everygrown_k13_paths_and_parts).prog [52]) (H := K13.hk) (ob := K13.ob) (M := 12000) (loose := K13.loose) (d := HandSHeadRun.topDef (OpenLaw.row PySem.Challenge.rw_everygrown_k13_paths_and_parts).prog 52) (kwd := []) K13.ob_eq
    (by kernel_rfl) (fun s => by kernel_rfl) K13.run (by kernel_rfl) (by kernel_rfl) (by kernel_rfl) (by rfl) (by first | assumption | decide +kernel) (by decide +kernel) ⟨rfl, rfl, rfl, rfl, rfl, by decide +kernel⟩ ?hw ?hc
  case hw => w_witness2
  case hc =>
    refine L2.walk_ofE (l := PySem.Challenge.rw_everygrown_k13_paths_and_parts) (n := 63) (k := 211) (x := "script") (CX := L2.CX0) rfl (by decide) (by kernel_rfl) ⟨rfl, by decide, by decide⟩ ?F (fun _ _ _ _ z => z)
    intro w mg fa h Y G hmg0
    obtain ⟨K, KX, c, cg⟩ := Y
    have hmg : mg ("law" : PySem.Str) = some (.ref fa) := by
      have e : (HandSHeadRun.topDef (OpenLaw.row PySem.Challenge.rw_everygrown_k13_paths_and_parts).prog 52).name = ("law" : PySem.Str) := by kernel_rfl
      rw [← e]
      exact hmg0
    exact PQ.law_end (names := K13.names) (T := K13.T) (B := K13.B) (Gs := K13.Gs) (i := 45) (k := 20) KX rfl (K13.frees KX G c) (PQ.gB_ok KX G cg) (K13.defs KX G c) rfl rfl rfl hmg (by decide) (by decide) K13.law_true
