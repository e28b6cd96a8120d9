import PyProof.Rows.All
import Wide.All
import OpenK.AllK
import Wide.FinOn
import HandS.ForMost
import HandS.Defaults
import HandS.TupAny
import HandS.List
import HandS.Strs
import HandS.Wide
import HandS.Gcd
import HandS.IsInst
import HandS.Style
import HandS.Conv
import HandS.NoneIn
import HandS.Flow
import HandS.Zip
import KE.SortData
import HandS.Head2
import HandS.HeadEnd
import HandS.HeadHook2
import KE.KStateDown
import HandS.Dict
import HandS.Text
import PyProof.StrBlock2
import PyProof.TwoTypesSub
import PyProof.ListStr
import HandS.More
import HandS.Deep
import HandS.WideBits
import PyProof.FitsReplace
import HandS.Head3
import PySem.Challenge.RW_everygrown_k87_chances_of_builds
set_option Elab.async false
set_option linter.all false
set_option maxRecDepth 100000
set_option maxHeartbeats 4000000
/-! Tuples whose object is known to have no dict: so that a method of theirs can be called. -/
namespace PQ
open PySem PySem.Spec PyProof.Rows L2
/-- at a stands a tuple of xs, and its object has no dict -/
def SqN (K : PySem.W.Frag) (H : Hp) (a : Addr) (xs : List V) : Prop :=
  (∃ o : Obj, H a = some (.frz o (.tup xs)) ∧ o.cls = .type "tuple" ∧ o.dict = none) ∨
  ∃ (o : Obj) (its : Array Value) (n : Nat), K.lookup a = some o ∧ o.cls = .type "tuple" ∧ o.dict = none ∧ o.data = .seq its n ∧ its.size ≤ sizeLine ∧ Vals xs its.toList
theorem SqN.sq {K : PySem.W.Frag} {H : Hp} {a : Addr} {xs : List V} (h : SqN K H a xs) : SqT K H a xs := by
  rcases h with ⟨o, h, _⟩ | ⟨o, its, n, h1, h2, _, h3, h4, h5⟩
  · exact .inl (.inr ⟨o, h⟩)
  · exact .inr ⟨o, its, n, h1, h2, h3, h4, h5⟩
/-- a new tuple -/
def NwT (H : Hp) (Q : VK) (xs : List V) : Prop := ∀ (p : Addr) (o : Obj), H p = none → o.cls = .type "tuple" → o.dict = none → Q (.ref p) (upd H p (.frz o (.tup xs)))
theorem SqN.new {K : PySem.W.Frag} {H : Hp} {p : Addr} {o : Obj} {xs : List V} (h1 : o.cls = .type "tuple") (h2 : o.dict = none) : SqN K (upd H p (.frz o (.tup xs))) p xs := .inl ⟨o, upd_same, h1, h2⟩
section
variable {X : Cx} {pos : Pos} {es : List Expr} {t : TA}
def tTupN (t : TA) : TE := fun σ H Q => t σ H fun xs H1 => xs.length ≤ sizeLine ∧ NwT H1 Q xs
theorem pe_tupN {x1} (h : PA X es t) : PE X (.Tuple es x1 pos) (tTupN t) := by
  refine ⟨fun pins s σ H Q I hq => ?_⟩
  refine wpAny_Tuple_spliced (thn (h.run pos pins s σ H _ I hq) fun us s1 ⟨xs, H1, I1, r, z, q⟩ => ⟨by rw [← r.length]; exact z, ?_⟩)
  have hf : H1 s1.heap.objs.size = none := I1.hok.fresh (Nat.le_refl _)
  have hg := Heap.get?_push_size (h := s1.heap) (o := ({ cls := .type "tuple", data := .seq us.toArray } : Obj)) rfl
  refine ⟨.ref s1.heap.objs.size, upd H1 s1.heap.objs.size (.frz { cls := .type "tuple", data := .seq us.toArray } (.tup xs)), I1.laid (t' := s1.toks) (fun b u e => Heap.get?_push_of_some _ e) (Nat.le_refl _) ?_, rfl, q _ _ hf rfl rfl⟩
  exact ⟨hg, z, us, r, ⟨_, hg, rfl, _, rfl⟩⟩
def rCatN (K : PySem.W.Frag) : R2 := fun x y H Q => ∃ a b xs ys, x = .ref a ∧ y = .ref b ∧ SqT K H a xs ∧ SqT K H b ys ∧ xs.length + ys.length ≤ sizeLine ∧
  (xs = [] → Q (.ref b) H) ∧ (xs ≠ [] → ys = [] → Q (.ref a) H) ∧ (xs ≠ [] → ys ≠ [] → NwT H Q (xs ++ ys))
theorem op_catN : OpR X (binaryOp .Add) (rCatN X.K) := by
  intro pins s σ H x y v u Q I rx ry h
  obtain ⟨a, b, xs, ys, rfl, rfl, ha, hb, hz, q0, q1, q2⟩ := h
  by_cases hx : xs = []
  · subst hx
    cases rx
    cases ry
    obtain ⟨its, r1, p1, _⟩ := I.tuple ha
    obtain ⟨its2, r2, p2, _⟩ := I.tuple hb
    cases r1
    exact cat_tup0 p1 p2 ⟨.ref b, H, I, rfl, q0 rfl⟩
  · cases rx
    cases ry
    obtain ⟨its, r1, p1, _⟩ := I.tuple ha
    obtain ⟨its2, r2, p2, _⟩ := I.tuple hb
    refine HT.cat_tup p1 p2 (fun z => hx (r1.nil_iff.mp z)) (fun z => ⟨.ref a, H, I, rfl, q1 hx (r2.nil_iff.mp z)⟩) (fun z => ?_) (by rw [← r1.length, ← r2.length]; exact hz)
    have hg := Heap.get?_push_size (h := s.heap) (o := ({ cls := .type "tuple", data := .seq (its ++ its2).toArray } : Obj)) rfl
    refine ⟨.ref s.heap.objs.size, _, I.laid (t' := s.toks) (o := .frz { cls := .type "tuple", data := .seq (its ++ its2).toArray } (.tup (xs ++ ys))) (fun b ob q => Heap.get?_push_of_some _ q) (Nat.le_refl _) ?_, rfl, q2 hx (fun w => z (r2.nil_iff.mpr w)) _ _ (I.hok.fresh (Nat.le_refl _)) rfl rfl⟩
    exact ⟨hg, by rw [List.length_append]; exact hz, _, r1.append r2, ⟨_, hg, rfl, _, rfl⟩⟩
def rSlN (K : PySem.W.Frag) : V → Option Int → Option Int → Hp → VK → Prop := fun x lo hi H Q => ∃ a xs, x = .ref a ∧ SqT K H a xs ∧
  (HT.sIx xs.length 0 lo = 0 ∧ HT.sIx xs.length xs.length hi = xs.length → Q (.ref a) H) ∧ (¬ (HT.sIx xs.length 0 lo = 0 ∧ HT.sIx xs.length xs.length hi = xs.length) → NwT H Q (cutV xs lo hi))
theorem sl_tupN : SlR X (rSlN X.K) := by
  intro pins s σ H x v vl vu lo hi sl Q I rx hs pl pu h
  obtain ⟨a, xs, rfl, hx, q1, q2⟩ := h
  cases rx
  obtain ⟨its, r, ht, hz⟩ := I.tuple hx
  have hlen : its.toArray.size = xs.length := by rw [List.size_toArray]; exact r.length.symm
  by_cases hw : HT.sIx xs.length 0 lo = 0 ∧ HT.sIx xs.length xs.length hi = xs.length
  · refine ⟨"tuple", _, PyProof.Rows.slot_tuple_getitem.lookup, ht.typeIs, ?_⟩
    exact getItem_tuple_whole ht hs pl pu (by rw [hlen]; exact hw) ⟨.ref a, H, I, rfl, q1 hw⟩
  · refine ⟨"tuple", _, PyProof.Rows.slot_tuple_getitem.lookup, ht.typeIs, ?_⟩
    refine HT.getItem_tuple_cut ht hs pl pu (by rw [hlen]; exact hw) ?_ (by rw [hlen]; exact hz)
    rw [hlen]
    have hg := Heap.get?_push_size (h := s.heap) (o := ({ cls := .type "tuple", data := .seq ((its.drop (HT.sIx xs.length 0 lo)).take (HT.sIx xs.length xs.length hi - HT.sIx xs.length 0 lo)).toArray } : Obj)) rfl
    refine ⟨.ref s.heap.objs.size, _, I.laid (t' := s.toks) (o := .frz { cls := .type "tuple", data := .seq ((its.drop (HT.sIx xs.length 0 lo)).take (HT.sIx xs.length xs.length hi - HT.sIx xs.length 0 lo)).toArray } (.tup (cutV xs lo hi))) (fun b ob q => Heap.get?_push_of_some _ q) (Nat.le_refl _) ?_, rfl, q2 hw _ _ (I.hok.fresh (Nat.le_refl _)) rfl rfl⟩
    exact ⟨hg, Nat.le_trans (cutV_length xs lo hi) hz, _, (r.drop (HT.sIx xs.length 0 lo)).take (HT.sIx xs.length xs.length hi - HT.sIx xs.length 0 lo), ⟨_, hg, rfl, _, rfl⟩⟩
theorem call_tupleN : CallR X (.type "tuple") (fun xs H Q => ∃ p ys, xs = [.ref p] ∧ ((SqL X.K H p ys ∧ NwT H Q ys) ∨ (SqT X.K H p ys ∧ Q (.ref p) H))) := by
  intro pins s σ H xs us Q I r h
  obtain ⟨p, ys, rfl, h⟩ := h
  obtain ⟨u, rfl, rx⟩ := vals1 r
  cases rx
  rcases h with ⟨hq, q⟩ | ⟨hq, q⟩
  · obtain ⟨its, r', pl, hz⟩ := I.list hq
    have hlen := r'.length
    refine call_tuple_list pl.isList (fun h' kp => ?_) (by simp only [List.size_toArray] <;> omega)
    have I1 : Inv X pins σ H { s with heap := h' } := I.kept (t' := s.toks) kp
    have hg := Heap.get?_push_size (h := h') (o := ({ cls := .type "tuple", data := .seq its.toArray } : Obj)) rfl
    have I2 : Inv X pins σ (upd H h'.objs.size (.frz { cls := .type "tuple", data := .seq its.toArray } (.tup ys))) { s with heap := h'.push { cls := .type "tuple", data := .seq its.toArray } } :=
      I1.laid (t' := s.toks) (fun b o e => Heap.get?_push_of_some _ e) (Nat.le_refl _) (show ObjOk X.prog X.w _ _ _ (.frz _ (.tup ys)) from ⟨hg, hz, its, r', ⟨_, hg, rfl, _, rfl⟩⟩)
    exact ⟨.ref h'.objs.size, _, I2, rfl, q _ _ (I1.hok.fresh (Nat.le_refl _)) rfl rfl⟩
  · obtain ⟨its, r', pl, hz⟩ := I.tuple hq
    exact call_tuple_same pl ⟨.ref p, H, I, rfl, q⟩
/-- t.index(i), the first place, of numbers -/
theorem mt_tup_indexI : MtR X "tuple.index" (fun x xs H Q => ∃ p, ∃ ys : List Int, ∃ z j, x = .ref p ∧ xs = [.int z] ∧ SqT X.K H p (ys.map V.int) ∧ ys[j]? = some z ∧ (∀ m, m < j → ys[m]? ≠ some z) ∧ Q (.int (j : Nat)) H) := by
  intro pins s σ H x xs v us Q I rx rs h
  obtain ⟨p, ys, z, j, rfl, rfl, hq, hy, hno, q⟩ := h
  cases rx
  obtain ⟨u, rfl, t, rfl⟩ := vals1 rs
  obtain ⟨its, r, pl, hz⟩ := I.tuple hq
  obtain ⟨⟨cls, dd, dt, sl⟩, ho, hc, n, hd⟩ := pl
  simp only at hc hd
  subst hc
  subst hd
  have hl : its.toArray.size = ys.length := by rw [List.size_toArray, ← r.length, List.length_map]
  have hj : j < its.toArray.size := by rw [hl]; exact (List.getElem?_eq_some_iff.mp hy).1
  have at' : ∀ (m : Nat) (hm : m < its.toArray.size), ∃ y t', ys[m]? = some y ∧ its.toArray[m] = Value.int y t' := fun m hm => by
    have hm' : m < ys.length := by rw [← hl]; exact hm
    obtain ⟨w, hw, t', hw'⟩ := r.get (i := m) (x := .int ys[m]) (by simp [hm'])
    refine ⟨ys[m], t', List.getElem?_eq_getElem hm', ?_⟩
    have e := (List.getElem?_eq_some_iff.mp hw).2
    rw [← hw', ← e]
    simp
  have fl : (ys.map V.int).all flatV = true := by
    rw [List.all_map]
    exact List.all_eq_true.mpr fun _ _ => rfl
  refine call_meets PySem.F.slot_tuple_index ⟨_, ho, rfl⟩ PySem.F.entry_tuple_index (PySem.F.args_tuple_index_2 _ _) (TI.tuple_indexAt p its.toArray n dd sl (.int z t) (eqU (.int z)) j hj ?_ ?_)
    ⟨ho, fun w hw => mem_eqAt (x := .int z) ⟨t, rfl⟩ rfl r fl w (by simpa using hw), ⟨.int (j : Nat), H, I.tok _, ⟨_, rfl⟩, q⟩⟩
  · obtain ⟨y, t', h1, h2⟩ := at' j hj
    rw [hy] at h1
    cases h1
    rw [h2]
    show (z == z) = true
    exact beq_self_eq_true z
  · intro m hm hmj
    obtain ⟨y, t', h1, h2⟩ := at' m hm
    rw [h2]
    show (y == z) = false
    exact beq_eq_false_iff_ne.mpr fun e => hno m hmj (e ▸ h1)
theorem sqn_is {pins : List (Addr × Obj)} {σ : L2.St} {H : Hp} {s : Shared} {p : Addr} {xs : List V} (I : Inv X pins σ H s) (h : SqN X.K H p xs) :
    s.TypeIs (.ref p) "tuple" ∧ ∀ a, Value.ref p = .ref a → ∃ ob, s.heap.get? a = some ob ∧ ob.dict = none := by
  rcases h with ⟨o, h, h1, h2⟩ | ⟨o, its, n, h, h1, h2, _⟩
  · obtain ⟨e, _⟩ := I.hok p _ h
    refine ⟨⟨o, e, h1⟩, fun a ea => ?_⟩
    cases ea
    exact ⟨o, e, h2⟩
  · refine ⟨⟨o, I.kIn p o h, h1⟩, fun a e => ?_⟩
    cases e
    exact ⟨o, I.kIn _ o h, h2⟩
section
variable {o e : Expr} {to : TE} {name : Str} {apos cpos : Pos} {id : String} {r : V → List V → Hp → VK → Prop}
def tTM (K : PySem.W.Frag) (r : V → List V → Hp → VK → Prop) (to : TE) (t : TA) : TE := fun σ H Q => to σ H fun x H1 => (∃ p xs, x = .ref p ∧ SqN K H1 p xs) ∧ t σ H1 fun xs H2 => r x xs H2 Q
/-- a method of a tuple -/
theorem pe_tm (slot : Slot "tuple" name id) (hty : typeOf (.builtin id) = pure (.type "method_descriptor")) (hm : MtR X id r) (ho : PE X o to) (ha : PA X (e :: es) t)
    (hbase : attributeBase o name X.env (eval o X.env) = eval o X.env := by rfl)
    (hfew : ((backTo cpos (starEach (e :: es) X.env)).all (fun x => !x.1) && (backToKw cpos (keywordEach [] X.env)).all (fun x => x.1.isSome)
      && decide ((e :: es).length + ([] : List Keyword).length + (if ([] : List Keyword).isEmpty then 0 else 1) < 30)) = true := by rfl)
    (hline : (apos.endLine == cpos.line) = true := by rfl) (hs : starEach (e :: es) X.env = (false, eval e X.env) :: starEach es X.env := by rfl) (hplain : (backTo cpos (starEach es X.env)).any (·.1) = false := by rfl) :
    PE X (.Call (.Attribute o name apos) (e :: es) [] cpos) (tTM X.K r to t) := by
  refine ⟨fun pins s σ H Q I h => ?_⟩
  refine wpAny_Call_method_late hbase hfew hline rfl (thn (ho.run pins s σ H _ I h) fun v s1 ⟨x, H1, I1, r1, ⟨p, xs, ex, ty⟩, q1⟩ => ?_)
  subst ex
  cases r1
  obtain ⟨h1, h2⟩ := sqn_is I1 ty
  refine ⟨"tuple", id, PySem.F.plainAttrs_tuple, slot, hty, h1, h2, ?_⟩
  have hA := ha.run cpos pins s1 σ H1 _ I1 q1
  rw [hs] at hA ⊢
  refine Calls.callWith_builtin (by show (false || (backTo cpos (starEach es X.env)).any (·.1)) = false; rw [hplain] <;> rfl) (Calls.evalArgs_plain ?_)
  exact thn hA fun us s2 ⟨vs, H2, I2, r2, q2⟩ => hm pins s2 σ H2 (.ref p) vs (.ref p) us Q I2 rfl r2 q2
end
end
end PQ

/-! A small language of pure data and stores, and what it says of the machine. -/
namespace PQ
open PySem PySem.Spec PyProof.Rows L2

/-- data: what a Python value is worth, tuples by their items, changeable lists by a number in the store -/
inductive D where
  | non
  | bl (b : Bool)
  | int (i : Int)
  | str (x : Str)
  | tup (ds : List D)
  | ref (i : Nat)
  | fix (ds : List D)
/-- what stands in the store -/
inductive Ob where
  | lst (ds : List D)
  | dic (kvs : List (Key × D))
abbrev Sto := List Ob
abbrev En := List (Option D)
abbrev Fg := PySem.W.Frag

/-- a list that nobody changes -/
def Fix (K : Fg) (H : Hp) (a : Addr) (xs : List V) : Prop :=
  (∃ o, H a = some (.frz o (.lst xs))) ∨
    ∃ (o : Obj) (its : Array Value) (n : Nat), K.lookup a = some o ∧ o.cls = .type "list" ∧ o.dict = none ∧ o.data = .seq its n ∧ its.size ≤ sizeLine ∧ Vals xs its.toList
theorem Fix.sq {K : Fg} {H : Hp} {a : Addr} {xs : List V} (h : Fix K H a xs) : SqL K H a xs := by
  rcases h with ⟨o, h⟩ | h
  · exact .inl (.inr ⟨o, h⟩)
  · exact .inr h

mutual
def Rp (K : Fg) (μ : List Addr) (H : Hp) : D → V → Prop
  | .non, v => v = .non
  | .bl b, v => v = .bl b
  | .int i, v => v = .int i
  | .str x, v => v = .str x
  | .tup ds, v => ∃ a vs, v = .ref a ∧ SqN K H a vs ∧ RpA K μ H ds vs ∧ ds.length ≤ sizeLine
  | .ref i, v => ∃ a, v = .ref a ∧ μ[i]? = some a
  | .fix ds, v => ∃ a vs, v = .ref a ∧ Fix K H a vs ∧ RpA K μ H ds vs ∧ ds.length ≤ sizeLine
def RpA (K : Fg) (μ : List Addr) (H : Hp) : List D → List V → Prop
  | [], vs => vs = []
  | d :: ds, vs => ∃ v r, vs = v :: r ∧ Rp K μ H d v ∧ RpA K μ H ds r
end

section
variable {K : Fg} {μ μ' μ1 μ2 : List Addr} {H H' H1 H2 : Hp} {S S' : Sto} {σ σ' : L2.St} {ρ : En}

/-- what a run may do to the machine: new things, and changes at the store's own addresses -/
structure Ext (K : Fg) (μ : List Addr) (H : Hp) (μ' : List Addr) (H' : Hp) : Prop where
  pre : ∃ l, μ' = μ ++ l ∧ ∀ a ∈ l, H a = none
  alive : ∀ a, H' a = none → H a = none
  fr : ∀ a o, H a = some o → a ∉ μ → H' a = some o
  tup : ∀ a xs, SqN K H a xs → SqN K H' a xs
  fix : ∀ a xs, Fix K H a xs → Fix K H' a xs
theorem Ext.refl : Ext K μ H μ H := ⟨⟨[], by simp, fun a h => nomatch h⟩, fun _ h => h, fun _ _ h _ => h, fun _ _ h => h, fun _ _ h => h⟩
theorem Ext.trans (a : Ext K μ H μ1 H1) (b : Ext K μ1 H1 μ2 H2) : Ext K μ H μ2 H2 := by
  obtain ⟨l, e, n⟩ := a.pre
  obtain ⟨l', e', n'⟩ := b.pre
  refine ⟨⟨l ++ l', by rw [e', e, List.append_assoc], fun c hc => ?_⟩, fun c h => a.alive c (b.alive c h), fun c o h hc => ?_, fun c xs h => b.tup c xs (a.tup c xs h), fun c xs h => b.fix c xs (a.fix c xs h)⟩
  · rcases List.mem_append.mp hc with h | h
    · exact n c h
    · exact a.alive c (n' c h)
  · refine b.fr c o (a.fr c o h hc) fun hm => ?_
    rw [e] at hm
    rcases List.mem_append.mp hm with hm | hm
    · exact hc hm
    · rw [n c hm] at h; cases h
theorem Ext.get (e : Ext K μ H μ' H') {i : Nat} {a : Addr} (h : μ[i]? = some a) : μ'[i]? = some a := by
  obtain ⟨l, rfl, _⟩ := e.pre
  rw [List.getElem?_append_left (List.getElem?_eq_some_iff.mp h).1]
  exact h
theorem Ext.len (e : Ext K μ H μ' H') : μ.length ≤ μ'.length := by
  obtain ⟨l, rfl, _⟩ := e.pre
  rw [List.length_append]
  omega

/-- what is represented stays represented -/
structure Le (K : Fg) (μ : List Addr) (H : Hp) (μ' : List Addr) (H' : Hp) : Prop where
  get : ∀ (i : Nat) a, μ[i]? = some a → μ'[i]? = some a
  tup : ∀ a xs, SqN K H a xs → SqN K H' a xs
  fix : ∀ a xs, Fix K H a xs → Fix K H' a xs
theorem Ext.le (e : Ext K μ H μ' H') : Le K μ H μ' H' := ⟨fun _ _ h => e.get h, e.tup, e.fix⟩
theorem Le.more (l : List Addr) : Le K μ H (μ ++ l) H := ⟨fun i a h => by
  rw [List.getElem?_append_left (List.getElem?_eq_some_iff.mp h).1]
  exact h, fun _ _ h => h, fun _ _ h => h⟩
mutual
theorem Rp.le (e : Le K μ H μ' H') : ∀ (d : D) (v : V), Rp K μ H d v → Rp K μ' H' d v
  | .non, _, h => h
  | .bl _, _, h => h
  | .int _, _, h => h
  | .str _, _, h => h
  | .tup ds, _, ⟨a, vs, h1, h2, h3, h4⟩ => ⟨a, vs, h1, e.tup _ _ h2, RpA.le e ds vs h3, h4⟩
  | .ref _, _, ⟨a, h1, h2⟩ => ⟨a, h1, e.get _ _ h2⟩
  | .fix ds, _, ⟨a, vs, h1, h2, h3, h4⟩ => ⟨a, vs, h1, e.fix _ _ h2, RpA.le e ds vs h3, h4⟩
theorem RpA.le (e : Le K μ H μ' H') : ∀ (ds : List D) (vs : List V), RpA K μ H ds vs → RpA K μ' H' ds vs
  | [], _, h => h
  | d :: ds, _, ⟨v, r, h1, h2, h3⟩ => ⟨v, r, h1, Rp.le e d v h2, RpA.le e ds r h3⟩
end
theorem Rp.mono (e : Ext K μ H μ' H') {d : D} {v : V} (h : Rp K μ H d v) : Rp K μ' H' d v := Rp.le e.le d v h
theorem RpA.mono (e : Ext K μ H μ' H') {ds : List D} {vs : List V} (h : RpA K μ H ds vs) : RpA K μ' H' ds vs := RpA.le e.le ds vs h
theorem RpA.nil : RpA K μ H [] [] := rfl
theorem RpA.cons {d : D} {v : V} {ds : List D} {vs : List V} (h : Rp K μ H d v) (t : RpA K μ H ds vs) : RpA K μ H (d :: ds) (v :: vs) := ⟨v, vs, rfl, h, t⟩
theorem RpA.length : ∀ {ds : List D} {vs : List V}, RpA K μ H ds vs → ds.length = vs.length
  | [], _, h => by rw [h]; rfl
  | _ :: ds, _, ⟨v, r, h1, _, h3⟩ => by rw [h1, List.length_cons, List.length_cons, RpA.length h3]
theorem RpA.get : ∀ {ds : List D} {vs : List V} {i : Nat} {d : D}, RpA K μ H ds vs → ds[i]? = some d → ∃ v, vs[i]? = some v ∧ Rp K μ H d v
  | d :: ds, _, 0, _, ⟨v, r, h1, h2, _⟩, e => by
    cases e
    exact ⟨v, by rw [h1]; rfl, h2⟩
  | _ :: ds, _, i + 1, d, ⟨v, r, h1, _, h3⟩, e => by
    obtain ⟨x, e1, e2⟩ := RpA.get (i := i) h3 e
    exact ⟨x, by rw [h1]; exact e1, e2⟩
theorem RpA.getV : ∀ {ds : List D} {vs : List V} {i : Nat} {v : V}, RpA K μ H ds vs → vs[i]? = some v → ∃ d, ds[i]? = some d ∧ Rp K μ H d v
  | [], _, _, _, h, e => by rw [h] at e; cases e
  | d :: ds, _, 0, _, ⟨v, r, h1, h2, _⟩, e => by
    rw [h1] at e
    cases e
    exact ⟨d, rfl, h2⟩
  | _ :: ds, _, i + 1, v, ⟨_, r, h1, _, h3⟩, e => by
    rw [h1] at e
    obtain ⟨x, e1, e2⟩ := RpA.getV (i := i) h3 e
    exact ⟨x, e1, e2⟩
theorem RpA.append : ∀ {ds es : List D} {vs us : List V}, RpA K μ H ds vs → RpA K μ H es us → RpA K μ H (ds ++ es) (vs ++ us)
  | [], _, _, _, h, t => by rw [h]; exact t
  | _ :: ds, _, _, _, ⟨v, r, h1, h2, h3⟩, t => by rw [h1]; exact ⟨v, _, rfl, h2, RpA.append h3 t⟩
theorem RpA.set {d : D} {v : V} (hd : Rp K μ H d v) : ∀ {ds : List D} {vs : List V} (i : Nat), RpA K μ H ds vs → RpA K μ H (ds.set i d) (vs.set i v)
  | [], _, _, h => by rw [h]; exact rfl
  | _ :: ds, _, 0, ⟨w, r, h1, h2, h3⟩ => by rw [h1]; exact ⟨v, r, rfl, hd, h3⟩
  | _ :: ds, _, i + 1, ⟨w, r, h1, h2, h3⟩ => by rw [h1]; exact ⟨w, _, rfl, h2, RpA.set hd i h3⟩
theorem RpA.take : ∀ {ds : List D} {vs : List V} (n : Nat), RpA K μ H ds vs → RpA K μ H (ds.take n) (vs.take n)
  | _, _, 0, _ => rfl
  | [], _, _ + 1, h => by rw [h]; exact rfl
  | _ :: ds, _, n + 1, ⟨w, r, h1, h2, h3⟩ => by rw [h1]; exact ⟨w, _, rfl, h2, RpA.take n h3⟩
theorem RpA.drop : ∀ {ds : List D} {vs : List V} (n : Nat), RpA K μ H ds vs → RpA K μ H (ds.drop n) (vs.drop n)
  | _, _, 0, h => h
  | [], _, _ + 1, h => by rw [h]; exact rfl
  | _ :: ds, _, n + 1, ⟨w, r, h1, h2, h3⟩ => by rw [h1]; exact RpA.drop n h3
theorem RpA.eraseIdx : ∀ {ds : List D} {vs : List V} (n : Nat), RpA K μ H ds vs → RpA K μ H (ds.eraseIdx n) (vs.eraseIdx n)
  | [], _, _, h => by rw [h]; exact rfl
  | _ :: ds, _, 0, ⟨w, r, h1, h2, h3⟩ => by rw [h1]; exact h3
  | _ :: ds, _, n + 1, ⟨w, r, h1, h2, h3⟩ => by rw [h1]; exact ⟨w, _, rfl, h2, RpA.eraseIdx n h3⟩
theorem RpA.reverse : ∀ {ds : List D} {vs : List V}, RpA K μ H ds vs → RpA K μ H ds.reverse vs.reverse
  | [], _, h => by rw [h]; exact rfl
  | d :: ds, _, ⟨w, r, h1, h2, h3⟩ => by
    rw [h1, List.reverse_cons, List.reverse_cons]
    exact RpA.append (RpA.reverse h3) (.cons h2 .nil)

/-- a dict's pairs -/
def RpK (K : Fg) (μ : List Addr) (H : Hp) : List (Key × D) → List (Key × V) → Prop
  | [], vs => vs = []
  | kd :: r, vs => ∃ v t, vs = (kd.1, v) :: t ∧ Rp K μ H kd.2 v ∧ RpK K μ H r t
theorem RpK.le (e : Le K μ H μ' H') : ∀ (ks : List (Key × D)) (vs : List (Key × V)), RpK K μ H ks vs → RpK K μ' H' ks vs
  | [], _, h => h
  | kd :: r, _, ⟨v, t, h1, h2, h3⟩ => ⟨v, t, h1, Rp.le e kd.2 v h2, RpK.le e r t h3⟩
theorem RpK.mono (e : Ext K μ H μ' H') {ks : List (Key × D)} {vs : List (Key × V)} (h : RpK K μ H ks vs) : RpK K μ' H' ks vs := RpK.le e.le ks vs h
theorem RpK.length : ∀ {ks : List (Key × D)} {vs : List (Key × V)}, RpK K μ H ks vs → ks.length = vs.length
  | [], _, h => by rw [h]; rfl
  | _ :: ks, _, ⟨v, r, h1, _, h3⟩ => by rw [h1, List.length_cons, List.length_cons, RpK.length h3]
/-- what a dict holds at a key; a dict with a key put in -/
def gD : List (Key × D) → Key → Option D
  | [], _ => none
  | (j, d) :: r, k => if j = k then some d else gD r k
def pD : List (Key × D) → Key → D → List (Key × D)
  | [], k, d => [(k, d)]
  | (j, e) :: r, k, d => if j = k then (j, d) :: r else (j, e) :: pD r k d
theorem putK_cons (j k : Key) (v w : V) (r : List (Key × V)) (hn : (r.any fun kv => decide (kv.1 = j)) = false) : putK ((j, w) :: r) k v = if j = k then (j, v) :: r else (j, w) :: putK r k v := by
  unfold putK
  by_cases e : j = k
  · subst e
    rw [if_pos (by simp), if_pos rfl, List.map_cons, if_pos rfl]
    congr 1
    rw [List.any_eq_false] at hn
    conv => rhs; rw [← List.map_id r]
    exact List.map_congr_left fun kv hkv => by
      rw [if_neg (by simpa using hn kv hkv)]
      rfl
  · rw [if_neg e]
    by_cases h : (r.any fun kv => decide (kv.1 = k)) = true
    · rw [if_pos (by simp only [List.any_cons, h, Bool.or_true]), if_pos h, List.map_cons, if_neg e]
    · rw [if_neg (by simp only [List.any_cons, Bool.or_eq_true, decide_eq_true_eq]; exact fun q => q.elim e h), if_neg h]
      rfl
/-- no key twice -/
def Nk : List (Key × D) → Prop
  | [] => True
  | (j, _) :: r => gD r j = none ∧ Nk r
theorem gD_pD : ∀ (ks : List (Key × D)) (k j : Key) (d : D), gD (pD ks k d) j = if k = j then some d else gD ks j
  | [], k, j, d => by show (if k = j then some d else none) = _; rfl
  | (i, e) :: r, k, j, d => by
    unfold pD
    by_cases h : i = k
    · rw [if_pos h]
      subst h
      unfold gD
      by_cases h2 : i = j
      · rw [if_pos h2, if_pos h2]
      · rw [if_neg h2, if_neg h2, if_neg h2]
    · rw [if_neg h]
      unfold gD
      rw [gD_pD r k j d]
      by_cases h2 : i = j
      · subst h2
        rw [if_pos rfl, if_pos rfl, if_neg (fun z => h z.symm)]
      · rw [if_neg h2, if_neg h2]
theorem Nk.put : ∀ {ks : List (Key × D)} (k : Key) (d : D), Nk ks → Nk (pD ks k d)
  | [], _, _, _ => ⟨rfl, trivial⟩
  | (i, e) :: r, k, d, ⟨h1, h2⟩ => by
    unfold pD
    by_cases h : i = k
    · rw [if_pos h]
      exact ⟨h1, h2⟩
    · rw [if_neg h]
      refine ⟨?_, h2.put k d⟩
      rw [gD_pD, if_neg (fun z => h z.symm)]
      exact h1
theorem pD_length : ∀ (ks : List (Key × D)) (k : Key) (d : D), (pD ks k d).length ≤ ks.length + 1
  | [], _, _ => Nat.le_refl _
  | (i, e) :: r, k, d => by
    unfold pD
    split
    · rw [List.length_cons, List.length_cons]; omega
    · rw [List.length_cons, List.length_cons]
      have := pD_length r k d
      omega
theorem RpK.get : ∀ {ks : List (Key × D)} {vs : List (Key × V)} (k : Key), RpK K μ H ks vs → match gD ks k, valV vs k with
    | some d, some v => Rp K μ H d v
    | none, none => True
    | _, _ => False
  | [], _, k, h => by rw [show _ = [] from h]; exact trivial
  | (j, d) :: r, _, k, ⟨v, t, h1, h2, h3⟩ => by
    rw [h1]
    unfold gD
    by_cases e : j = k
    · rw [if_pos e, valV_pos (p := (j, v)) e]
      exact h2
    · rw [if_neg e, valV_neg (p := (j, v)) e]
      exact RpK.get k h3
theorem RpK.getS {ks : List (Key × D)} {vs : List (Key × V)} {k : Key} {d : D} (h : RpK K μ H ks vs) (e : gD ks k = some d) : ∃ v, valV vs k = some v ∧ Rp K μ H d v := by
  have := h.get k
  rw [e] at this
  cases q : valV vs k with
  | none => rw [q] at this; exact this.elim
  | some v => rw [q] at this; exact ⟨v, rfl, this⟩
theorem RpK.getN {ks : List (Key × D)} {vs : List (Key × V)} {k : Key} (h : RpK K μ H ks vs) (e : gD ks k = none) : valV vs k = none := by
  have := h.get k
  rw [e] at this
  cases q : valV vs k with
  | none => rfl
  | some v => rw [q] at this; exact this.elim
theorem RpK.isSome {ks : List (Key × D)} {vs : List (Key × V)} (h : RpK K μ H ks vs) (k : Key) : (valV vs k).isSome = (gD ks k).isSome := by
  cases e : gD ks k with
  | none => rw [h.getN e]; rfl
  | some d => obtain ⟨v, q, _⟩ := h.getS e; rw [q]; rfl
theorem RpK.put {k : Key} {d : D} {v : V} (rd : Rp K μ H d v) : ∀ {ks : List (Key × D)} {vs : List (Key × V)}, Nk ks → RpK K μ H ks vs → RpK K μ H (pD ks k d) (putK vs k v)
  | [], _, _, h => by rw [show _ = [] from h]; exact ⟨v, [], rfl, rd, rfl⟩
  | (j, e) :: r, _, ⟨n1, n2⟩, ⟨w, t, h1, h2, h3⟩ => by
    rw [h1, putK_cons _ _ _ _ _ (by
      rw [valV_any, h3.getN n1]
      rfl)]
    unfold pD
    by_cases q : j = k
    · rw [if_pos q, if_pos q]
      exact ⟨v, t, rfl, rd, h3⟩
    · rw [if_neg q, if_neg q]
      exact ⟨w, _, rfl, h2, h3.put rd n2⟩
/-- an object of the store as it stands -/
def ObR (K : Fg) (μ : List Addr) (H : Hp) : Ob → Addr → Prop
  | .lst ds, a => ∃ vs, H a = some (.lst vs) ∧ RpA K μ H ds vs ∧ ds.length ≤ sizeLine
  | .dic ks, a => ∃ vs, H a = some (.dK vs) ∧ RpK K μ H ks vs ∧ ks.length ≤ sizeLine ∧ Nk ks
structure StOk (K : Fg) (μ : List Addr) (H : Hp) (S : Sto) : Prop where
  len : μ.length = S.length
  nd : μ.Nodup
  ob : ∀ (i : Nat) o a, S[i]? = some o → μ[i]? = some a → ObR K μ H o a
theorem ObR.some {o : Ob} {a : Addr} (h : ObR K μ H o a) : ∃ u, H a = some u ∧ (∀ xs, u ≠ .tup xs) ∧ ∀ b xs, u ≠ .frz b xs := by
  cases o with
  | lst ds =>
    obtain ⟨vs, e, _⟩ := h
    exact ⟨.lst vs, e, fun _ => (fun z => by cases z), fun _ _ => (fun z => by cases z)⟩
  | dic ks =>
    obtain ⟨vs, e, _⟩ := h
    exact ⟨.dK vs, e, fun _ => (fun z => by cases z), fun _ _ => (fun z => by cases z)⟩
theorem StOk.mem (h : StOk K μ H S) {a : Addr} (m : a ∈ μ) : ∃ u, H a = some u ∧ (∀ xs, u ≠ .tup xs) ∧ ∀ b xs, u ≠ .frz b xs := by
  obtain ⟨i, e⟩ := List.mem_iff_getElem?.mp m
  have hi : i < S.length := by
    rw [← h.len]
    exact (List.getElem?_eq_some_iff.mp e).1
  exact (h.ob i S[i] a (List.getElem?_eq_getElem hi) e).some
/-- from what was changed alone -/
theorem StOk.ext (h : StOk K μ H S) (pre : ∃ l, μ' = μ ++ l ∧ ∀ a ∈ l, H a = none) (alive : ∀ a, H' a = none → H a = none) (fr : ∀ a o, H a = some o → a ∉ μ → H' a = some o) : Ext K μ H μ' H' := by
  refine ⟨pre, alive, fr, fun a xs q => ?_, fun a xs q => ?_⟩
  · rcases q with ⟨o, q, c1, c2⟩ | q
    · refine .inl ⟨o, fr _ _ q fun m => ?_, c1, c2⟩
      obtain ⟨u, e, _, n2⟩ := h.mem m
      rw [q] at e
      exact n2 _ _ (Option.some.inj e).symm
    · exact .inr q
  · rcases q with ⟨o, q⟩ | q
    · refine .inl ⟨o, fr _ _ q fun m => ?_⟩
      obtain ⟨u, e, _, n2⟩ := h.mem m
      rw [q] at e
      exact n2 _ _ (Option.some.inj e).symm
    · exact .inr q
/-- a new thing that the store does not know -/
theorem StOk.fresh (h : StOk K μ H S) {p : Addr} (hp : H p = none) (o : HO) : Ext K μ H μ (upd H p o) :=
  h.ext ⟨[], by simp, fun a z => nomatch z⟩ (fun a z => by
    by_cases e : a = p
    · rw [e]; exact hp
    · rw [upd_ne e] at z; exact z) fun a u z _ => by rw [upd_ne (ne_of_none z hp)]; exact z
theorem ObR.le {o : Ob} {a : Addr} (e : Le K μ H μ' H') (q : H' a = H a) (h : ObR K μ H o a) : ObR K μ' H' o a := by
  cases o with
  | lst ds =>
    obtain ⟨vs, e1, e2, e3⟩ := h
    exact ⟨vs, q.trans e1, RpA.le e ds vs e2, e3⟩
  | dic ks =>
    obtain ⟨vs, e1, e2, e3, e4⟩ := h
    exact ⟨vs, q.trans e1, RpK.le e ks vs e2, e3, e4⟩
theorem StOk.freshOk (h : StOk K μ H S) {p : Addr} (hp : H p = none) (o : HO) : StOk K μ (upd H p o) S :=
  ⟨h.len, h.nd, fun i ob a e1 e2 => (h.ob i ob a e1 e2).le (h.fresh hp o).le (by
    obtain ⟨u, e, _⟩ := h.mem (List.mem_of_getElem? e2)
    rw [upd_ne (ne_of_none e hp)])⟩
/-- a thing of one's own that the store takes up -/
theorem StOk.takeO (h : StOk K μ H S) {p : Addr} {ob : Ob} (hp : p ∉ μ) (r : ObR K μ H ob p) : StOk K (μ ++ [p]) H (S ++ [ob]) := by
  refine ⟨by rw [List.length_append, List.length_append, h.len]; rfl, ?_, fun i o a e1 e2 => ?_⟩
  · rw [List.nodup_append]
    exact ⟨h.nd, by simp, fun a ha b hb z => by
      have : b = p := by simpa using hb
      rw [z, this] at ha
      exact hp ha⟩
  · by_cases hi : i < S.length
    · rw [List.getElem?_append_left hi] at e1
      rw [List.getElem?_append_left (by rw [h.len]; exact hi)] at e2
      exact (h.ob i o a e1 e2).le (Le.more [p]) rfl
    · have hi2 : i = S.length := by
        have := (List.getElem?_eq_some_iff.mp e1).1
        rw [List.length_append] at this
        simp at this
        omega
      subst hi2
      rw [List.getElem?_append_right (Nat.le_refl _), Nat.sub_self] at e1
      rw [← h.len, List.getElem?_append_right (Nat.le_refl _), Nat.sub_self] at e2
      cases e1
      cases e2
      exact r.le (Le.more [p]) rfl
theorem StOk.take (h : StOk K μ H S) {p : Addr} {vs : List V} {ds : List D} (hp : p ∉ μ) (hv : H p = some (.lst vs)) (r : RpA K μ H ds vs) (hz : ds.length ≤ sizeLine) : StOk K (μ ++ [p]) H (S ++ [.lst ds]) := h.takeO hp ⟨vs, hv, r, hz⟩
theorem Ext.take (e : Ext K μ H μ1 H1) {p : Addr} (hp : H p = none) : Ext K μ H (μ1 ++ [p]) H1 := by
  obtain ⟨l, rfl, n⟩ := e.pre
  refine ⟨⟨l ++ [p], by rw [List.append_assoc], fun a ha => ?_⟩, e.alive, e.fr, e.tup, e.fix⟩
  rcases List.mem_append.mp ha with h | h
  · exact n a h
  · have : a = p := by simpa using h
    rw [this]; exact hp
/-- a thing of the store is changed -/
theorem StOk.putE (h : StOk K μ H S) {i : Nat} {p : Addr} (u : HO) (hi : μ[i]? = some p) : Ext K μ H μ (upd H p u) := by
  have hm : p ∈ μ := List.mem_of_getElem? hi
  exact h.ext ⟨[], by simp, fun a z => nomatch z⟩ (fun a z => by
    by_cases e : a = p
    · rw [e, upd_same] at z; cases z
    · rw [upd_ne e] at z; exact z) fun a u z q => by
      rw [upd_ne (fun e => q (by rw [e]; exact hm))]
      exact z
theorem StOk.putO (h : StOk K μ H S) {i : Nat} {p : Addr} {u : HO} {ob : Ob} (hi : μ[i]? = some p) (r : ObR K μ (upd H p u) ob p) : StOk K μ (upd H p u) (S.set i ob) := by
  have ex := h.putE u hi
  refine ⟨by rw [List.length_set]; exact h.len, h.nd, fun j o a e1 e2 => ?_⟩
  by_cases hj : i = j
  · subst hj
    rw [hi] at e2
    cases e2
    rw [List.getElem?_set_self (by rw [← h.len]; exact (List.getElem?_eq_some_iff.mp hi).1)] at e1
    cases e1
    exact r
  · rw [List.getElem?_set_ne hj] at e1
    have hne : a ≠ p := fun z => hj (by
      rw [z] at e2
      obtain ⟨h1, q1⟩ := List.getElem?_eq_some_iff.mp hi
      obtain ⟨h2, q2⟩ := List.getElem?_eq_some_iff.mp e2
      exact (List.getElem_inj h.nd).mp (q1.trans q2.symm))
    exact (h.ob j o a e1 e2).le ex.le (upd_ne hne)
theorem StOk.put (h : StOk K μ H S) {i : Nat} {p : Addr} {vs : List V} {ds : List D} (hi : μ[i]? = some p) (r : RpA K μ H ds vs) (hz : ds.length ≤ sizeLine) : Ext K μ H μ (upd H p (.lst vs)) ∧ StOk K μ (upd H p (.lst vs)) (S.set i (.lst ds)) :=
  ⟨h.putE _ hi, h.putO hi ⟨vs, upd_same, r.mono (h.putE _ hi), hz⟩⟩
theorem StOk.dic (h : StOk K μ H S) {i : Nat} {a : Addr} {ks : List (Key × D)} (e1 : S[i]? = some (.dic ks)) (e2 : μ[i]? = some a) : ∃ vs, H a = some (.dK vs) ∧ RpK K μ H ks vs ∧ ks.length ≤ sizeLine ∧ Nk ks := h.ob i _ a e1 e2
theorem StOk.lst (h : StOk K μ H S) {i : Nat} {a : Addr} {ds : List D} (e1 : S[i]? = some (.lst ds)) (e2 : μ[i]? = some a) : ∃ vs, H a = some (.lst vs) ∧ RpA K μ H ds vs ∧ ds.length ≤ sizeLine := h.ob i _ a e1 e2
end
end PQ

/-! The language: its syntax and what it says. -/
namespace PQ
open PySem PySem.Spec PyProof.Rows L2

inductive Res (α : Type) where
  | ok (a : α) (S : Sto)
  | exc (c : Str) (fs : List (Str × D)) (S : Sto)
  | bad
def Res.bind {α β : Type} : Res α → (α → Sto → Res β) → Res β
  | .ok a S, f => f a S
  | .exc c fs S, _ => .exc c fs S
  | .bad, _ => .bad
/-- a wish that is granted, or nothing -/
noncomputable def ask {α : Type} (p : Prop) (r : Res α) : Res α := open Classical in if p then r else .bad
def may {α β : Type} (o : Option α) (f : α → Res β) : Res β := match o with
  | some a => f a
  | none => .bad

inductive Bop | add | sub | mul | fdiv | mod | pow | shl | shr | band | bor | bxor
inductive Cop | eq | ne | lt | le | gt | ge
inductive Ag | len | sum | all | any | min | max | tuple
inductive F1 | int | abs | str
inductive F2 | min | max | gcd
inductive Ty | int | bool | str | tuple
/-- targets: a name, a row of names -/
inductive CN
  | nm (i : Nat)
  | tup (is : List Nat)

mutual
inductive CE where
  | var (i : Nat)
  | lit (d : D)
  | tup (es : CEs)
  | alloc (q : CQ)
  | bin (o : Bop) (a b : CE)
  | neg (a : CE)
  | cmp (o : Cop) (a b : CE)
  | chn (o p : Cop) (a b c : CE)
  | isN (a : CE)
  | notN (a : CE)
  | inr (a : CE) (r : CR)
  | notInr (a : CE) (r : CR)
  | and (a b : CE)
  | or (a b : CE)
  | not (a : CE)
  | ife (t : CT) (a b : CE)
  | idx (a i : CE)
  | slc (a : CE) (lo hi : CO)
  | call (f : Nat) (es : CEs)
  | fn1 (f : F1) (a : CE)
  | fn2 (f : F2) (a b : CE)
  | agg (f : Ag) (r : CR)
  | isi (a : CE) (t : Ty)
  | app (l x : CE)
  | ext (l : CE) (r : CR)
  | pop (l : CE)
  | popAt (l i : CE)
  | join (s : Str) (r : CR)
  | tix (a i : CE)
  | dnew
  | dget (a k x : CE)
inductive CO where
  | none
  | some (e : CE)
inductive CEs where
  | nil
  | cons (a : CE) (r : CEs)
inductive CQ where
  | disp (es : CEs)
  | comp (own : List Nat) (g : CN) (it : CI) (elt : CE)
  | compIf (own : List Nat) (g : CN) (it : CI) (t : CT) (elt : CE)
  | cat (a b : CR)
  | sorted (r : CR)
  | list (r : CR)
  | listRg (a b : CE)
  | rev (r : CR)
inductive CR where
  | q (c : CQ)
  | e (c : CE)
inductive CI where
  | r (c : CR)
  | rg (a b : CE)
  | rgd (a b : CE)
inductive CT where
  | v (e : CE)
  | and (a b : CT)
  | or (a b : CT)
  | not (a : CT)
end
mutual
inductive CS where
  | set (g : CN) (e : CE)
  | par (i j : Nat) (a b : CE)
  | sub (o i e : CE)
  | aug (i : Nat) (o : Bop) (e : CE)
  | augS (o i : CE) (p : Bop) (e : CE)
  | ex (e : CE)
  | ret (e : CE)
  | ite (t : CT) (a b : CSs)
  | for (g : CN) (it : CI) (b : CSs)
  | while (t : CT) (b : CSs)
  | brk
  | cont
  | pass
  | raise
inductive CSs where
  | nil
  | cons (s : CS) (r : CSs)
end

/-! ### values -/
mutual
/-- pure data of a value; f: of the store's lists -/
def toPW (f : Nat → Option PyData) : D → Option PyData
  | .non => some .none
  | .bl b => some (.bool b)
  | .int i => some (.int i)
  | .str x => some (.str x)
  | .tup ds => (toPsW f ds).map .tuple
  | .fix ds => (toPsW f ds).map .list
  | .ref i => f i
def toPsW (f : Nat → Option PyData) : List D → Option (List PyData)
  | [] => some []
  | d :: ds => match toPW f d, toPsW f ds with
    | some p, some ps => some (p :: ps)
    | _, _ => none
end
/-- the store's lists by their contents, at most n deep -/
def refP (S : Sto) : Nat → Nat → Option PyData
  | 0, _ => none
  | n + 1, i => match S[i]? with
    | some (.lst ds) => (toPsW (refP S n) ds).map .list
    | _ => none
def toP (S : Sto) (d : D) : Option PyData := toPW (refP S 8) d
def toPs (S : Sto) (ds : List D) : Option (List PyData) := toPsW (refP S 8) ds

def scalD : D → D → Bool
  | .non, .non => true | .non, .int _ => true | .int _, .non => true | .non, .bl _ => true | .bl _, .non => true | .non, .str _ => true | .str _, .non => true
  | .int _, .int _ => true | .bl _, .bl _ => true | .str _, .str _ => true
  | .int _, .str _ => true | .str _, .int _ => true | .bl _, .str _ => true | .str _, .bl _ => true
  | _, _ => false
def eqSc : D → D → Bool
  | .non, .non => true
  | .int i, .int j => decide (i = j)
  | .bl i, .bl j => decide (i = j)
  | .str i, .str j => decide (i = j)
  | _, _ => false
def dEq (S : Sto) (x y : D) : Option Bool :=
  if scalD x y = true then some (eqSc x y) else match toP S x, toP S y with
    | some p, some q => if (SeqAt.shaped p && SeqAt.shaped q) = true then some (PyData.eqv p q) else none
    | _, _ => none
def tru (S : Sto) : D → Option Bool
  | .non => some false
  | .bl b => some b
  | .int i => some (i != 0)
  | .str x => if x.length ≤ sizeLine then some (x.length != 0) else none
  | .tup ds => some (!ds.isEmpty)
  | .fix ds => some (!ds.isEmpty)
  | .ref i => match S[i]? with
    | some (.lst ds) => some (!ds.isEmpty)
    | _ => none
def FDivOk (i j : Int) : Prop := j ≠ 0 ∧ Builtin.divisionGoesByPylong i j = false
noncomputable def binD (o : Bop) (x y : D) (S : Sto) : Res D :=
  match o, x, y with
  | .add, .int i, .int j => .ok (.int (i + j)) S
  | .add, .int i, .bl b => .ok (.int (i + if b = true then 1 else 0)) S
  | .add, .str a, .str b => ask (a.length + b.length ≤ sizeLine) (.ok (.str (a ++ b)) S)
  | .add, .tup a, .tup b => ask (a.length + b.length ≤ sizeLine) (.ok (.tup (a ++ b)) S)
  | .add, .ref i, .ref j => match S[i]?, S[j]? with
    | some (.lst a), some (.lst b) => ask (a.length + b.length ≤ sizeLine) (.ok (.ref S.length) (S ++ [.lst (a ++ b)]))
    | _, _ => .bad
  | .sub, .int i, .int j => .ok (.int (i - j)) S
  | .mul, .int i, .int j => ask (IntMulOk i j) (.ok (.int (i * j)) S)
  | .mul, .ref i, .int k => match S[i]? with
    | some (.lst a) => ask (-(2 ^ 63) ≤ k ∧ k < 2 ^ 63 ∧ a.length * k.toNat ≤ sizeLine) (.ok (.ref S.length) (S ++ [.lst (List.replicate k.toNat a).flatten]))
    | _ => .bad
  | .mul, .str a, .int k => ask (MulOk a k) (.ok (.str (Txt.mul a k)) S)
  | .fdiv, .int i, .int j => ask (FDivOk i j) (.ok (.int (i.fdiv j)) S)
  | .mod, .int i, .int j => ask (j ≠ 0) (.ok (.int (i.fmod j)) S)
  | .pow, .int i, .int j => ask (CPow i j) (.ok (.int (i ^ j.toNat)) S)
  | .shl, .int i, .int j => ask (CPow i j) (.ok (.int (i * 2 ^ j.toNat)) S)
  | .shr, .int i, .int j => ask (0 ≤ j) (.ok (.int (i / 2 ^ j.toNat)) S)
  | .band, .int i, .int j => .ok (.int (Builtin.bitAnd i j)) S
  | .bor, .int i, .int j => .ok (.int (Builtin.bitOr i j)) S
  | .bxor, .int i, .int j => .ok (.int (Builtin.bitXor i j)) S
  | _, _, _ => .bad
def augD (o : Bop) (x y : D) (S : Sto) : Res D :=
  match o, x, y with
  | .add, .int i, .int j => .ok (.int (i + j)) S
  | .sub, .int i, .int j => .ok (.int (i - j)) S
  | .add, .str a, .str b => if a.length + b.length ≤ sizeLine then .ok (.str (a ++ b)) S else .bad
  | _, _, _ => .bad
def isNon : D → Bool
  | .non => true
  | _ => false
def cmpI (f : Int → Int → Bool) (x y : D) (S : Sto) : Res D := match x, y with
  | .int i, .int j => .ok (.bl (f i j)) S
  | _, _ => .bad
def cmpD (o : Cop) (x y : D) (S : Sto) : Res D :=
  match o with
  | .eq => may (dEq S x y) fun b => .ok (.bl b) S
  | .ne => may (dEq S x y) fun b => .ok (.bl (!b)) S
  | .lt => cmpI (fun i j => decide (i < j)) x y S
  | .le => cmpI (fun i j => decide (i ≤ j)) x y S
  | .gt => cmpI (fun i j => decide (j < i)) x y S
  | .ge => cmpI (fun i j => decide (j ≤ i)) x y S
/-- a walked thing: one's own list, or a value -/
inductive RV
  | own (ds : List D)
  | val (d : D)
/-- a list (tracked or fixed) by its items -/
def lsOf (S : Sto) : RV → Option (List D)
  | .own ds => some ds
  | .val (.fix ds) => some ds
  | .val (.ref i) => match S[i]? with
    | some (.lst ds) => some ds
    | _ => none
  | _ => none
/-- .. a list that may change -/
def trOf (S : Sto) : RV → Option (List D)
  | .own ds => some ds
  | .val (.ref i) => match S[i]? with
    | some (.lst ds) => some ds
    | _ => none
  | _ => none
/-- a dict by its pairs -/
def dicOf (S : Sto) : RV → Option (List (Key × D))
  | .val (.ref i) => match S[i]? with
    | some (.dic ks) => some ks
    | _ => none
  | _ => none
def keyOf : D → Option Key
  | .int i => some (.inl i)
  | .str x => some (.inr x)
  | _ => none
/-- .. or a tuple -/
def sqOf (S : Sto) : RV → Option (List D)
  | .val (.tup ds) => some ds
  | r => lsOf S r
def lenOf (S : Sto) (r : RV) : Option Nat := match sqOf S r with
  | some ds => some ds.length
  | none => (dicOf S r).map List.length
/-- .. or a text by its letters -/
def lettersD (z : Str) : List D := z.cps.toList.map fun c => D.str ⟨#[c]⟩
def lstOf (S : Sto) (r : RV) : Option (List D) := match r with
  | .val (.str z) => if z.length ≤ sizeLine then some (lettersD z) else none
  | r => sqOf S r
def intsOf : List D → Option (List Int)
  | [] => some []
  | .int i :: r => (intsOf r).map (i :: ·)
  | _ => none
def boolsOf : List D → Option (List Bool)
  | [] => some []
  | .bl b :: r => (boolsOf r).map (b :: ·)
  | _ => none
def strsOf : List D → Option (List Str)
  | [] => some []
  | .str x :: r => (strsOf r).map (x :: ·)
  | _ => none
def greatest : List Int → Option Int
  | [] => none
  | [x] => some x
  | x :: r => (greatest r).map fun m => if x < m then m else x
def least : List Int → Option Int
  | [] => none
  | [x] => some x
  | x :: r => (least r).map fun m => if m < x then m else x
def aggD (f : Ag) (r : RV) (S : Sto) : Res D :=
  match f with
  | .len => match r with
    | .val (.str x) => if x.length ≤ sizeLine then .ok (.int x.length) S else .bad
    | r => may (lenOf S r) fun n => .ok (.int n) S
  | .sum => may (lsOf S r) fun ds => may (intsOf ds) fun ns => .ok (.int ns.sum) S
  | .all => may (lsOf S r) fun ds => may (boolsOf ds) fun bs => .ok (.bl (bs.all id)) S
  | .any => may (lsOf S r) fun ds => may (boolsOf ds) fun bs => .ok (.bl (bs.any id)) S
  | .max => may (lsOf S r) fun ds => may (intsOf ds) fun ns => may (greatest ns) fun m => .ok (.int m) S
  | .min => may (lsOf S r) fun ds => may (intsOf ds) fun ns => may (least ns) fun m => .ok (.int m) S
  | .tuple => may (sqOf S r) fun ds => .ok (.tup ds) S
def fn1D (f : F1) (x : D) (S : Sto) : Res D :=
  match f, x with
  | .int, .int i => .ok (.int i) S
  | .int, .bl b => .ok (.int (if b then 1 else 0)) S
  | .abs, .int i => .ok (.int (if i < 0 then -i else i)) S
  | .str, .int i => if i.natAbs.log2 < 1920 then .ok (.str (toString i)) S else .bad
  | _, _ => .bad
def fn2D (f : F2) (x y : D) (S : Sto) : Res D :=
  match f, x, y with
  | .min, .int i, .int j => .ok (.int (if j < i then j else i)) S
  | .max, .int i, .int j => .ok (.int (if j > i then j else i)) S
  | .gcd, .int i, .int j => .ok (.int ((Nat.gcd i.natAbs j.natAbs : Nat) : Int)) S
  | _, _, _ => .bad
def tyB (t : Ty) (S : Sto) : D → Option Bool
  | .non => some false
  | .bl _ => some (match t with | .int => true | .bool => true | _ => false)
  | .int _ => some (match t with | .int => true | _ => false)
  | .str _ => some (match t with | .str => true | _ => false)
  | .tup _ => some (match t with | .tuple => true | _ => false)
  | .fix _ => some false
  | .ref i => match S[i]? with
    | some (.lst _) => some false
    | _ => none
def idxD (x i : D) (S : Sto) : Res D :=
  match x, i with
  | .tup ds, .int i => may (atI ds i) fun d => .ok d S
  | .fix ds, .int i => may (atI ds i) fun d => .ok d S
  | .ref a, .int i => match S[a]? with
    | some (.lst ds) => may (atI ds i) fun d => .ok d S
    | some (.dic ks) => may (gD ks (.inl i)) fun d => .ok d S
    | none => .bad
  | .ref a, .str z => match S[a]? with
    | some (.dic ks) => may (gD ks (.inr z)) fun d => .ok d S
    | _ => .bad
  | .str z, .int i => if z.length ≤ sizeLine then may (atI z.cps.toList i) fun c => .ok (.str ⟨#[c]⟩) S else .bad
  | _, _ => .bad
def cutD (ds : List D) (lo hi : Option Int) : List D := (ds.drop (HT.sIx ds.length 0 lo)).take (HT.sIx ds.length ds.length hi - HT.sIx ds.length 0 lo)
def slcD (x : D) (lo hi : Option Int) (S : Sto) : Res D :=
  match x with
  | .tup ds => .ok (.tup (cutD ds lo hi)) S
  | .fix ds => .ok (.ref S.length) (S ++ [.lst (cutD ds lo hi)])
  | .ref a => match S[a]? with
    | some (.lst ds) => .ok (.ref S.length) (S ++ [.lst (cutD ds lo hi)])
    | _ => .bad
  | .str z => if z.length ≤ sizeLine then .ok (.str (cutS z lo hi)) S else .bad
  | _ => .bad
/-- a list of the store -/
def withL {α : Type} (S : Sto) (x : D) (f : Nat → List D → Res α) : Res α :=
  match x with
  | .ref a => match S[a]? with
    | some (.lst ds) => f a ds
    | _ => .bad
  | _ => .bad
/-- a dict of the store -/
def withD {α : Type} (S : Sto) (x : D) (f : Nat → List (Key × D) → Res α) : Res α :=
  match x with
  | .ref a => match S[a]? with
    | some (.dic ks) => f a ks
    | _ => .bad
  | _ => .bad
def isDic (S : Sto) : D → Bool
  | .ref a => match S[a]? with
    | some (.dic _) => true
    | _ => false
  | _ => false
def setD (x i v : D) (S : Sto) : Res Unit := if isDic S x = true then (withD S x fun a ks => may (keyOf i) fun k => if ks.length < sizeLine then .ok () (S.set a (.dic (pD ks k v))) else .bad) else withL S x fun a ds => match i with
  | .int i => may (ixN ds.length i) fun j => .ok () (S.set a (.lst (ds.set j v)))
  | _ => .bad
/-- what is changed at a place -/
def getD (x i : D) (S : Sto) : Res D := match x with
  | .ref _ => idxD x i S
  | _ => .bad
def dgetD (x k y : D) (S : Sto) : Res D := withD S x fun _ ks => may (keyOf k) fun k => .ok ((gD ks k).getD y) S
def appD (x v : D) (S : Sto) : Res D := withL S x fun a ds => if ds.length < sizeLine then .ok .non (S.set a (.lst (ds ++ [v]))) else .bad
def extD (x : D) (r : RV) (S : Sto) : Res D := withL S x fun a ds => may (trOf S r) fun es => if ds.length + es.length ≤ sizeLine then .ok .non (S.set a (.lst (ds ++ es))) else .bad
def popD (x : D) (S : Sto) : Res D := withL S x fun a ds => may ds[ds.length - 1]? fun d => .ok d (S.set a (.lst ds.dropLast))
def popAtD (x i : D) (S : Sto) : Res D := withL S x fun a ds => match i with
  | .int i => if -(2 ^ 63) ≤ i ∧ i < 2 ^ 63 then may (seqIndex? i ds.length) fun k => may ds[k]? fun d => .ok d (S.set a (.lst (ds.eraseIdx k))) else .bad
  | _ => .bad
/-- a target takes a value -/
def setAll : List Nat → List D → En → Option En
  | [], [], ρ => some ρ
  | i :: is, d :: ds, ρ => setAll is ds (ρ.set i (some d))
  | _, _, _ => none
def bindN (g : CN) (d : D) (ρ : En) (S : Sto) : Option En :=
  match g with
  | .nm i => some (ρ.set i (some d))
  | .tup is => (sqOf S (.val d)).bind fun ds => setAll is ds ρ
/-- flows -/
inductive Fl
  | nx (ρ : En)
  | bk (ρ : En)
  | ct (ρ : En)
  | rt (d : D)
/-- what is walked: the items, and whether the walked list must stand still -/
structure Itv where
  items : List D
  at_ : Option Nat
def Itv.still (t : Itv) (S : Sto) : Prop := match t.at_ with
  | none => True
  | some i => S[i]? = some (.lst t.items)
noncomputable def loopQ (C : Sto → Prop) (f : D → Sto → Res (Option D)) : List D → Sto → Res (List D)
  | [], S => ask (C S) (.ok [] S)
  | d :: ds, S => ask (C S) ((f d S).bind fun o S1 => (loopQ C f ds S1).bind fun r S2 => .ok (match o with | some x => x :: r | none => r) S2)
noncomputable def loopS (C : Sto → Prop) (f : D → En → Sto → Res Fl) : List D → En → Sto → Res Fl
  | [], ρ, S => ask (C S) (.ok (.nx ρ) S)
  | d :: ds, ρ, S => ask (C S) ((f d ρ S).bind fun fl S1 => match fl with
    | .nx ρ' => loopS C f ds ρ' S1
    | .ct ρ' => loopS C f ds ρ' S1
    | .bk ρ' => .ok (.nx ρ') S1
    | .rt d => .ok (.rt d) S1)
def whileS (t : En → Sto → Res Bool) (b : En → Sto → Res Fl) : Nat → En → Sto → Res Fl
  | 0, _, _ => .bad
  | n + 1, ρ, S => (t ρ S).bind fun c S1 => if c = true then (b ρ S1).bind fun fl S2 => (match fl with
      | .nx ρ' => whileS t b n ρ' S2
      | .ct ρ' => whileS t b n ρ' S2
      | .bk ρ' => .ok (.nx ρ') S2
      | .rt d => .ok (.rt d) S2) else .ok (.nx ρ) S1
def turns : Nat := 1000000000000
def wipeE (ρ : En) : List Nat → En
  | [] => ρ
  | v :: vs => (wipeE ρ vs).set v none
def rgD (i j : Int) : List D := (List.range (j - i).toNat).map fun k => D.int (i + (k : Nat))
/-- range(i, j, -1) -/
def rgdD (i j : Int) : List D := (List.range (i - j).toNat).map fun k => D.int (i - (k : Nat))
def bd62 (i : Int) : Prop := -(2 ^ 62) ≤ i ∧ i < 2 ^ 62
abbrev Orc := Nat → List D → Sto → Res D
def itOf (r : RV) (S : Sto) : Option Itv := match r with
  | .val (.str z) => some ⟨lettersD z, none⟩
  | .val (.ref i) => (sqOf S r).map fun ds => ⟨ds, some i⟩
  | r => (sqOf S r).map fun ds => ⟨ds, none⟩
def flatD : D → Bool
  | .non => true
  | .bl _ => true
  | .int _ => true
  | .str _ => true
  | _ => false
def eqF : D → D → Bool
  | .non, .non => true
  | .bl a, .bl b => a == b
  | .bl a, .int b => (if a then 1 else 0) == b
  | .int a, .bl b => a == (if b then 1 else 0)
  | .int a, .int b => a == b
  | .str a, .str b => a == b
  | _, _ => false
def inD (x : D) (r : RV) (S : Sto) : Option Bool := match sqOf S r with
  | some ds => if (flatD x && ds.all flatD) = true then some (ds.any fun y => eqF y x) else (match lsOf S r with
    | some ds => (match toP S x, toPs S ds with
      | some p, some ps => if (SeqAt.shaped p && SeqAt.shaped (.list ps)) = true then some (ps.any fun q => PyData.eqv q p) else none
      | _, _ => none)
    | none => none)
  | none => match dicOf S r, keyOf x with
    | some ks, some k => some (gD ks k).isSome
    | _, _ => none
/-- t.index(i), of numbers -/
def tixD (ds : List D) (y : D) (S : Sto) : Res D := match y with
  | .int z => may (intsOf ds) fun ns => if z ∈ ns then .ok (.int ((ns.idxOf z : Nat) : Int)) S else .bad
  | _ => .bad
noncomputable def sortD (S : Sto) (ds : List D) : Res (List D) := match toPs S ds with
  | some ps => ask (PySem.W.AllAlike ps ∧ PySem.W.Sortable ps ∧ ∀ p ∈ ps, p.depth ≤ 64) (.ok (ds.mergeSort (PySem.W.dataLe false fun d => (toP S d).getD .none)) S)
  | none => .bad

mutual
noncomputable def evE (C : Orc) : CE → En → Sto → Res D
  | .var i, ρ, S => may ((ρ[i]?).bind id) fun d => .ok d S
  | .lit d, _, S => .ok d S
  | .tup es, ρ, S => (evEs C es ρ S).bind fun ds S1 => ask (ds.length ≤ sizeLine) (.ok (.tup ds) S1)
  | .alloc q, ρ, S => (evQ C q ρ S).bind fun ds S1 => .ok (.ref S1.length) (S1 ++ [.lst ds])
  | .bin o a b, ρ, S => (evE C a ρ S).bind fun x S1 => (evE C b ρ S1).bind fun y S2 => binD o x y S2
  | .neg a, ρ, S => (evE C a ρ S).bind fun x S1 => match x with
    | .int i => .ok (.int (-i)) S1
    | _ => .bad
  | .cmp o a b, ρ, S => (evE C a ρ S).bind fun x S1 => (evE C b ρ S1).bind fun y S2 => cmpD o x y S2
  | .chn o p a b c, ρ, S => (evE C a ρ S).bind fun x S1 => (evE C b ρ S1).bind fun y S2 => (cmpD o x y S2).bind fun z S3 => match z with
    | .bl true => (evE C c ρ S3).bind fun w S4 => cmpD p y w S4
    | .bl false => .ok (.bl false) S3
    | _ => .bad
  | .isN a, ρ, S => (evE C a ρ S).bind fun x S1 => .ok (.bl (isNon x)) S1
  | .notN a, ρ, S => (evE C a ρ S).bind fun x S1 => .ok (.bl (!isNon x)) S1
  | .inr a r, ρ, S => (evE C a ρ S).bind fun x S1 => (evR C r ρ S1).bind fun v S2 => may (inD x v S2) fun b => .ok (.bl b) S2
  | .notInr a r, ρ, S => (evE C a ρ S).bind fun x S1 => (evR C r ρ S1).bind fun v S2 => may (inD x v S2) fun b => .ok (.bl (!b)) S2
  | .and a b, ρ, S => (evE C a ρ S).bind fun x S1 => may (tru S1 x) fun k => if k = true then evE C b ρ S1 else .ok x S1
  | .or a b, ρ, S => (evE C a ρ S).bind fun x S1 => may (tru S1 x) fun k => if k = true then .ok x S1 else evE C b ρ S1
  | .not a, ρ, S => (evE C a ρ S).bind fun x S1 => may (tru S1 x) fun k => .ok (.bl (!k)) S1
  | .ife t a b, ρ, S => (evT C t ρ S).bind fun k S1 => if k = true then evE C a ρ S1 else evE C b ρ S1
  | .idx a i, ρ, S => (evE C a ρ S).bind fun x S1 => (evE C i ρ S1).bind fun y S2 => idxD x y S2
  | .slc a lo hi, ρ, S => (evE C a ρ S).bind fun x S1 => (evO C lo ρ S1).bind fun l S2 => (evO C hi ρ S2).bind fun u S3 => slcD x l u S3
  | .call f es, ρ, S => (evEs C es ρ S).bind fun ds S1 => C f ds S1
  | .fn1 f a, ρ, S => (evE C a ρ S).bind fun x S1 => fn1D f x S1
  | .fn2 f a b, ρ, S => (evE C a ρ S).bind fun x S1 => (evE C b ρ S1).bind fun y S2 => fn2D f x y S2
  | .agg f r, ρ, S => (evR C r ρ S).bind fun v S1 => aggD f v S1
  | .isi a t, ρ, S => (evE C a ρ S).bind fun x S1 => may (tyB t S1 x) fun b => .ok (.bl b) S1
  | .app l x, ρ, S => (evE C l ρ S).bind fun o S1 => withL S1 o fun _ _ => (evE C x ρ S1).bind fun v S2 => appD o v S2
  | .ext l r, ρ, S => (evE C l ρ S).bind fun o S1 => withL S1 o fun _ _ => (evR C r ρ S1).bind fun v S2 => extD o v S2
  | .pop l, ρ, S => (evE C l ρ S).bind fun o S1 => popD o S1
  | .popAt l i, ρ, S => (evE C l ρ S).bind fun o S1 => withL S1 o fun _ _ => (evE C i ρ S1).bind fun v S2 => popAtD o v S2
  | .join s r, ρ, S => (evR C r ρ S).bind fun v S1 => may (sqOf S1 v) fun ds => may (strsOf ds) fun ys => ask ((ys.map (·.length)).sum + ys.length * s.length ≤ 16777216) (.ok (.str (Txt.join s ys)) S1)
  | .tix a i, ρ, S => (evE C a ρ S).bind fun x S1 => match x with
    | .tup ds => (evE C i ρ S1).bind fun y S2 => tixD ds y S2
    | _ => .bad
  | .dnew, _, S => .ok (.ref S.length) (S ++ [.dic []])
  | .dget a k x, ρ, S => (evE C a ρ S).bind fun o S1 => withD S1 o fun _ _ => (evE C k ρ S1).bind fun y S2 => (evE C x ρ S2).bind fun z S3 => dgetD o y z S3
noncomputable def evO (C : Orc) : CO → En → Sto → Res (Option Int)
  | .none, _, S => .ok none S
  | .some e, ρ, S => (evE C e ρ S).bind fun x S1 => match x with
    | .int i => .ok (some i) S1
    | _ => .bad
noncomputable def evEs (C : Orc) : CEs → En → Sto → Res (List D)
  | .nil, _, S => .ok [] S
  | .cons a r, ρ, S => (evE C a ρ S).bind fun d S1 => (evEs C r ρ S1).bind fun ds S2 => .ok (d :: ds) S2
noncomputable def evQ (C : Orc) : CQ → En → Sto → Res (List D)
  | .disp es, ρ, S => (evEs C es ρ S).bind fun ds S1 => ask (ds.length ≤ sizeLine) (.ok ds S1)
  | .comp own g it elt, ρ, S => (evI C it ρ S).bind fun t S1 => ask (t.items.length ≤ sizeLine) (loopQ t.still (fun d S2 => may (bindN g d (wipeE ρ own) S2) fun ρ' => (evE C elt ρ' S2).bind fun x S3 => .ok (some x) S3) t.items S1)
  | .compIf own g it c elt, ρ, S => (evI C it ρ S).bind fun t S1 => ask (t.items.length ≤ sizeLine) (loopQ t.still (fun d S2 => may (bindN g d (wipeE ρ own) S2) fun ρ' => (evT C c ρ' S2).bind fun k S3 => if k = true then (evE C elt ρ' S3).bind fun x S4 => .ok (some x) S4 else .ok none S3) t.items S1)
  | .cat a b, ρ, S => (evR C a ρ S).bind fun v S1 => (evR C b ρ S1).bind fun w S2 => may (trOf S2 v) fun x => may (trOf S2 w) fun y => ask (x.length + y.length ≤ sizeLine) (.ok (x ++ y) S2)
  | .sorted r, ρ, S => (evR C r ρ S).bind fun v S1 => may (lsOf S1 v) fun ds => sortD S1 ds
  | .list r, ρ, S => (evR C r ρ S).bind fun v S1 => may (lstOf S1 v) fun ds => .ok ds S1
  | .listRg a b, ρ, S => (evE C a ρ S).bind fun x S1 => (evE C b ρ S1).bind fun y S2 => match x, y with
    | .int i, .int j => ask (RgOk i j) (.ok (rgD i j) S2)
    | _, _ => .bad
  | .rev r, ρ, S => (evR C r ρ S).bind fun v S1 => may (lsOf S1 v) fun ds => .ok ds.reverse S1
noncomputable def evR (C : Orc) : CR → En → Sto → Res RV
  | .q c, ρ, S => (evQ C c ρ S).bind fun ds S1 => .ok (.own ds) S1
  | .e c, ρ, S => (evE C c ρ S).bind fun d S1 => .ok (.val d) S1
noncomputable def evI (C : Orc) : CI → En → Sto → Res Itv
  | .r c, ρ, S => (evR C c ρ S).bind fun v S1 => may (itOf v S1) fun t => .ok t S1
  | .rg a b, ρ, S => (evE C a ρ S).bind fun x S1 => (evE C b ρ S1).bind fun y S2 => match x, y with
    | .int i, .int j => ask (bd62 i ∧ bd62 j) (.ok ⟨rgD i j, none⟩ S2)
    | _, _ => .bad
  | .rgd a b, ρ, S => (evE C a ρ S).bind fun x S1 => (evE C b ρ S1).bind fun y S2 => match x, y with
    | .int i, .int j => ask (bd62 i ∧ bd62 j) (.ok ⟨rgdD i j, none⟩ S2)
    | _, _ => .bad
noncomputable def evT (C : Orc) : CT → En → Sto → Res Bool
  | .v e, ρ, S => (evE C e ρ S).bind fun x S1 => may (tru S1 x) fun k => .ok k S1
  | .and a b, ρ, S => (evT C a ρ S).bind fun k S1 => if k = true then evT C b ρ S1 else .ok false S1
  | .or a b, ρ, S => (evT C a ρ S).bind fun k S1 => if k = true then .ok true S1 else evT C b ρ S1
  | .not a, ρ, S => (evT C a ρ S).bind fun k S1 => .ok (!k) S1
end
mutual
noncomputable def evS (C : Orc) : CS → En → Sto → Res Fl
  | .set g e, ρ, S => (evE C e ρ S).bind fun d S1 => may (bindN g d ρ S1) fun ρ' => .ok (.nx ρ') S1
  | .par i j a b, ρ, S => (evE C a ρ S).bind fun x S1 => (evE C b ρ S1).bind fun y S2 => .ok (.nx ((ρ.set i (some x)).set j (some y))) S2
  | .sub o i e, ρ, S => (evE C e ρ S).bind fun d S1 => (evE C o ρ S1).bind fun x S2 => (evE C i ρ S2).bind fun y S3 => (setD x y d S3).bind fun _ S4 => .ok (.nx ρ) S4
  | .aug i p e, ρ, S => may ((ρ[i]?).bind id) fun x => (evE C e ρ S).bind fun y S1 => (augD p x y S1).bind fun z S2 => .ok (.nx (ρ.set i (some z))) S2
  | .augS o i p e, ρ, S => (evE C o ρ S).bind fun x S1 => (evE C i ρ S1).bind fun y S2 => (getD x y S2).bind fun v S3 => (evE C e ρ S3).bind fun w S4 => (augD p v w S4).bind fun z S5 => (setD x y z S5).bind fun _ S6 => .ok (.nx ρ) S6
  | .ex e, ρ, S => (evE C e ρ S).bind fun _ S1 => .ok (.nx ρ) S1
  | .ret e, ρ, S => (evE C e ρ S).bind fun d S1 => .ok (.rt d) S1
  | .ite t a b, ρ, S => (evT C t ρ S).bind fun k S1 => if k = true then evSs C a ρ S1 else evSs C b ρ S1
  | .for g it b, ρ, S => (evI C it ρ S).bind fun t S1 => loopS t.still (fun d ρ1 S2 => may (bindN g d ρ1 S2) fun ρ2 => evSs C b ρ2 S2) t.items ρ S1
  | .while t b, ρ, S => whileS (evT C t) (evSs C b) turns ρ S
  | .brk, ρ, S => .ok (.bk ρ) S
  | .cont, ρ, S => .ok (.ct ρ) S
  | .pass, ρ, S => .ok (.nx ρ) S
  | .raise, _, _ => .bad
noncomputable def evSs (C : Orc) : CSs → En → Sto → Res Fl
  | .nil, ρ, S => .ok (.nx ρ) S
  | .cons s r, ρ, S => (evS C s ρ S).bind fun fl S1 => match fl with
    | .nx ρ' => evSs C r ρ' S1
    | f => .ok f S1
end
end PQ

/-! What the language says, the machine does: expressions. -/
namespace L2
open PySem PySem.Spec PyProof.Rows
theorem PE.pq {X : Cx} {e : Expr} {t t' : TE} (h : PE X e t) (q : ∀ σ H Q, t' σ H Q → t σ H Q) : PE X e t' := ⟨fun pins s σ H Q I hw => h.run pins s σ H Q I (q σ H Q hw)⟩
theorem PT.pq {X : Cx} {e : Expr} {t t' : TT} (h : PT X e t) (q : ∀ σ H Q, t' σ H Q → t σ H Q) : PT X e t' := ⟨fun pins s σ H Q I hw => h.run pins s σ H Q I (q σ H Q hw)⟩
theorem PW.pq {X : Cx} {e : Expr} {t t' : TT} (h : PW X e t) (q : ∀ σ H Q, t' σ H Q → t σ H Q) : PW X e t' := ⟨fun w pins s σ H Q I hw => h.run w pins s σ H Q I (q σ H Q hw)⟩
theorem PA.pq {X : Cx} {e : List Expr} {t t' : TA} (h : PA X e t) (q : ∀ σ H Q, t' σ H Q → t σ H Q) : PA X e t' := ⟨fun pos pins s σ H Q I hw => h.run pos pins s σ H Q I (q σ H Q hw)⟩
theorem PO.pq {X : Cx} {e : Option Expr} {t t' : TO} (h : PO X e t) (q : ∀ σ H Q, t' σ H Q → t σ H Q) : PO X e t' := ⟨fun pins s σ H Q I hw => h.run pins s σ H Q I (q σ H Q hw)⟩

end L2

namespace PQ
open PySem PySem.Spec PyProof.Rows L2
abbrev Slots := L2.St

section
variable {K : Fg} {μ μ' μ1 : List Addr} {H H' H1 : Hp} {S S' : Sto} {σ : Slots} {ρ : En} {α β : Type}
/-- an answer, and what is wanted behind it -/
def Po (K : Fg) (μ : List Addr) (H : Hp) (r : Res α) (P : α → Sto → List Addr → Hp → Prop) : Prop := match r with
  | .ok a S' => ∀ μ' H', Ext K μ H μ' H' → StOk K μ' H' S' → P a S' μ' H'
  | _ => False
theorem Po.later {r : Res α} {P : α → Sto → List Addr → Hp → Prop} (e : Ext K μ H μ' H') (h : Po K μ H r P) : Po K μ' H' r P := by
  cases r with
  | ok a S' => exact fun μ2 H2 e2 s2 => h μ2 H2 (e.trans e2) s2
  | exc c fs S' => exact h
  | bad => exact h
theorem Po.imp {r : Res α} {P P' : α → Sto → List Addr → Hp → Prop} (h : Po K μ H r P) (q : ∀ a S' μ' H', r = .ok a S' → Ext K μ H μ' H' → StOk K μ' H' S' → P a S' μ' H' → P' a S' μ' H') : Po K μ H r P' := by
  cases r with
  | ok a S' => exact fun μ2 H2 e2 s2 => q a S' μ2 H2 rfl e2 s2 (h μ2 H2 e2 s2)
  | exc c fs S' => exact h
  | bad => exact h
theorem Po.bind {r : Res α} {f : α → Sto → Res β} {P : β → Sto → List Addr → Hp → Prop} (h : Po K μ H (r.bind f) P) : Po K μ H r fun a S' μ' H' => Po K μ' H' (f a S') P := by
  cases r with
  | ok a S' => exact fun μ2 H2 e2 s2 => Po.later e2 h
  | exc c fs S' => exact h
  | bad => exact h
theorem Po.ask {p : Prop} {r : Res α} {P : α → Sto → List Addr → Hp → Prop} (h : Po K μ H (ask p r) P) : p ∧ Po K μ H r P := by
  unfold PQ.ask at h
  split at h
  · exact ⟨by assumption, h⟩
  · exact h.elim
theorem Po.ite {p : Prop} [Decidable p] {r : Res α} {P : α → Sto → List Addr → Hp → Prop} (h : Po K μ H (if p then r else .bad) P) : p ∧ Po K μ H r P := by
  split at h
  · exact ⟨by assumption, h⟩
  · exact h.elim
theorem Po.may {o : Option β} {f : β → Res α} {P : α → Sto → List Addr → Hp → Prop} (h : Po K μ H (may o f) P) : ∃ a, o = some a ∧ Po K μ H (f a) P := by
  cases o with
  | none => exact h.elim
  | some a => exact ⟨a, rfl, h⟩
theorem Po.at {a : α} {P : α → Sto → List Addr → Hp → Prop} (h : Po K μ H (.ok a S) P) (s : StOk K μ H S) : P a S μ H := h μ H .refl s

/-- the names -/
def EnvOk (K : Fg) (μ : List Addr) (H : Hp) (ρ : En) (σ : Slots) : Prop := σ.length = ρ.length ∧ ∀ (i : Nat) d, ρ[i]? = some (some d) → ∃ v, σ[i]? = some (some v) ∧ Rp K μ H d v
theorem EnvOk.mono (e : Ext K μ H μ' H') (h : EnvOk K μ H ρ σ) : EnvOk K μ' H' ρ σ := ⟨h.1, fun i d q => let ⟨v, e1, e2⟩ := h.2 i d q; ⟨v, e1, e2.mono e⟩⟩
theorem EnvOk.set (h : EnvOk K μ H ρ σ) {d : D} {v : V} (r : Rp K μ H d v) (i : Nat) : EnvOk K μ H (ρ.set i (some d)) (σ.set i (some v)) := by
  refine ⟨by rw [List.length_set, List.length_set]; exact h.1, fun j d' q => ?_⟩
  by_cases hj : i = j
  · subst hj
    by_cases hi : i < ρ.length
    · rw [List.getElem?_set_self hi] at q
      cases q
      exact ⟨v, List.getElem?_set_self (by rw [h.1]; exact hi), r⟩
    · rw [List.getElem?_eq_none (by rw [List.length_set]; omega)] at q
      cases q
  · rw [List.getElem?_set_ne hj] at q ⊢
    exact h.2 j d' q
theorem EnvOk.wipe (h : EnvOk K μ H ρ σ) : ∀ vs : List Nat, EnvOk K μ H (wipeE ρ vs) (wipe σ vs)
  | [] => h
  | v :: vs => by
    have ih := EnvOk.wipe h vs
    refine ⟨by unfold wipeE L2.wipe; rw [List.length_set, List.length_set]; exact ih.1, fun j d q => ?_⟩
    unfold wipeE at q
    unfold L2.wipe
    by_cases hj : v = j
    · subst hj
      by_cases hi : v < (wipeE ρ vs).length
      · rw [List.getElem?_set_self hi] at q; cases q
      · rw [List.getElem?_eq_none (by rw [List.length_set]; omega)] at q; cases q
    · rw [List.getElem?_set_ne hj] at q ⊢
      exact ih.2 j d q

/-- a walked thing as it stands -/
def RvR (K : Fg) (μ : List Addr) (H : Hp) : RV → V → Prop
  | .own ds, v => ∃ a vs, v = .ref a ∧ H a = some (.lst vs) ∧ a ∉ μ ∧ RpA K μ H ds vs ∧ ds.length ≤ sizeLine
  | .val d, v => Rp K μ H d v
theorem Ext.notin (e : Ext K μ H μ' H') {a : Addr} {o : HO} (h : H a = some o) (n : a ∉ μ) : a ∉ μ' := by
  obtain ⟨l, rfl, q⟩ := e.pre
  intro m
  rcases List.mem_append.mp m with m | m
  · exact n m
  · rw [q a m] at h; cases h
theorem RvR.mono (e : Ext K μ H μ' H') {r : RV} {v : V} (h : RvR K μ H r v) : RvR K μ' H' r v := by
  cases r with
  | own ds =>
    obtain ⟨a, vs, h1, h2, h3, h4, h5⟩ := h
    exact ⟨a, vs, h1, e.fr a _ h2 h3, e.notin h2 h3, h4.mono e, h5⟩
  | val d => exact Rp.mono e h

/-! ### readings -/
def tE (K : Fg) (f : En → Sto → Res D) : TE := fun σ H Q => ∃ μ ρ S, EnvOk K μ H ρ σ ∧ StOk K μ H S ∧ Po K μ H (f ρ S) fun d _ μ' H' => ∀ v, Rp K μ' H' d v → Q v H'
def tT (K : Fg) (f : En → Sto → Res Bool) : TT := fun σ H Q => ∃ μ ρ S, EnvOk K μ H ρ σ ∧ StOk K μ H S ∧ Po K μ H (f ρ S) fun b _ _ H' => Q b H'
def tA (K : Fg) (f : En → Sto → Res (List D)) : TA := fun σ H Q => ∃ μ ρ S, EnvOk K μ H ρ σ ∧ StOk K μ H S ∧ Po K μ H (f ρ S) fun ds _ μ' H' => ∀ vs, RpA K μ' H' ds vs → Q vs H'
def tQ (K : Fg) (f : En → Sto → Res (List D)) : TE := fun σ H Q => ∃ μ ρ S, EnvOk K μ H ρ σ ∧ StOk K μ H S ∧ Po K μ H (f ρ S) fun ds _ μ' H' => ∀ a vs, H a = none → H' a = some (.lst vs) → a ∉ μ' → RpA K μ' H' ds vs → ds.length ≤ sizeLine → Q (.ref a) H'
def tR (K : Fg) (f : En → Sto → Res RV) : TE := fun σ H Q => ∃ μ ρ S, EnvOk K μ H ρ σ ∧ StOk K μ H S ∧ Po K μ H (f ρ S) fun r _ μ' H' => ∀ v, RvR K μ' H' r v → Q v H'
def tO (K : Fg) (f : En → Sto → Res (Option Int)) : TO := fun σ H Q => ∃ μ ρ S, EnvOk K μ H ρ σ ∧ StOk K μ H S ∧ Po K μ H (f ρ S) fun o _ _ H' => Q o H'

/-- a def's promise: what the oracle says of it -/
def spC (K : Fg) (C : Orc) (f : Nat) : Sp := fun vs H Q _ => ∃ μ ds S, StOk K μ H S ∧ RpA K μ H ds vs ∧ Po K μ H (C f ds S) fun d _ μ' H' => ∀ v, Rp K μ' H' d v → Q v H'

/-- what a module's name stands for: a value that stays, a built-in function -/
inductive Gv
  | con (d : D)
  | fn (id : String)
def GvOk (K : Fg) (mg : Str → Option Value) (x : Str) : Gv → Prop
  | .con d => ∃ v u, mg x = some u ∧ RelV v u ∧ ∀ μ H, Rp K μ H d v
  | .fn id => mg x = some (.builtin id)
/-- the place where a text stands: the defs' names, the built-ins' names, the def's names, its scope, the module's other names -/
structure Pl where
  T : List Str
  B : List Str
  N : List Str
  sc : Scope
  G : List (Str × Gv)
structure Good (X : Cx) (p : Pl) (C : Orc) : Prop where
  calm : X.calm = true
  nd : X.N.Nodup
  un : X.A.units + 80 < cLine
  own : PassesOwn (model X.prog X.w) X.A X.env X.xe
  N : X.N = p.N
  sc : X.env.scope = p.sc
  blt : ∀ x, x ∈ p.B → X.mg x = none
  glb : ∀ x g, (x, g) ∈ p.G → GvOk X.K X.mg x g
  fn : ∀ (i : Nat) x, p.T[i]? = some x → ∃ f fd ps k, X.mg x = some (.ref f) ∧ FnOk X.prog X.w X.K X.mg X.base CX0 k f fd ps (spC X.K C i) ∧ Room k X.A ∧ PySem.W.keepIn X.K (.ref f) = true ∧ Binds X.K fd ps []
end

/-! ### the judgements -/
def SdE (p : Pl) (e : Expr) (c : CE) : Prop := ∀ X C, Good X p C → PE X e (tE X.K (evE C c))
def SdT (p : Pl) (e : Expr) (c : CT) : Prop := ∀ X C, Good X p C → PT X e (tT X.K (evT C c))
def SdW (p : Pl) (e : Expr) (c : CT) : Prop := ∀ X C, Good X p C → PW X e (tT X.K (evT C c))
def SdA (p : Pl) (es : List Expr) (c : CEs) : Prop := ∀ X C, Good X p C → PA X es (tA X.K (evEs C c))
def SdQ (p : Pl) (e : Expr) (c : CQ) : Prop := ∀ X C, Good X p C → PE X e (tQ X.K (evQ C c))
def SdR (p : Pl) (e : Expr) (c : CR) : Prop := ∀ X C, Good X p C → PE X e (tR X.K (evR C c))
def SdO (p : Pl) (e : Option Expr) (c : CO) : Prop := ∀ X C, Good X p C → PO X e (tO X.K (evO C c))

section
variable {p : Pl} {a b c e : Expr} {ca cb cc : CE} {pos : Pos}
/-! ### names, constants -/
theorem sd_var {i : Nat} {x : Str} (hN : p.N[i]? = some x) (hv : Vis p.sc x) (hd : (x == ("__debug__" : Str)) = false) (hcd : (x == ("__classdict__" : Str)) = false) : SdE p (.Name x pos) (.var i) := fun X C g =>
  (pe_var (i := i) (by rw [g.N]; exact hN) (by rw [g.sc]; exact hv) hd hcd).pq fun σ H Q ⟨μ, ρ, S, he, hs, h⟩ => by
    unfold evE at h
    obtain ⟨d, e1, h⟩ := h.may
    have e2 : ρ[i]? = some (some d) := by
      cases q : ρ[i]? with
      | none => rw [q] at e1; cases e1
      | some o => rw [q] at e1; exact congrArg some e1
    obtain ⟨v, q1, q2⟩ := he.2 i d e2
    exact ⟨v, q1, h.at hs v q2⟩
theorem sd_lit {d : D} {v : V} (h : ∀ X : Cx, PE X e (tC v)) (r : ∀ K μ H, Rp K μ H d v) : SdE p e (.lit d) := fun X C g =>
  (h X).pq fun σ H Q ⟨μ, ρ, S, he, hs, h⟩ => by
    unfold evE at h
    exact h.at hs v (r _ _ _)
theorem sd_int {i j} : SdE p (.Constant (.int i) j pos) (.lit (.int i)) := sd_lit (v := .int i) (fun _ => pe_int) fun _ _ _ => rfl
theorem sd_bl {i j} : SdE p (.Constant (.bool i) j pos) (.lit (.bl i)) := sd_lit (v := .bl i) (fun _ => pe_bl) fun _ _ _ => rfl
theorem sd_non {j} : SdE p (.Constant .none j pos) (.lit .non) := sd_lit (v := .non) (fun _ => pe_non) fun _ _ _ => rfl
theorem sd_str {x j} : SdE p (.Constant (.str x) j pos) (.lit (.str x)) := sd_lit (v := .str x) (fun _ => pe_str) fun _ _ _ => rfl

/-! ### argument lists, displays -/
theorem sa_nil : SdA p [] .nil := fun X C g => pa_nil.pq fun σ H Q ⟨μ, ρ, S, he, hs, h⟩ => by
  unfold evEs at h
  exact h.at hs [] rfl
theorem sa_cons {es : List Expr} {r : CEs} (ha : SdE p a ca) (hr : SdA p es r) (hs : ∀ env, starEach (a :: es) env = (false, eval a env) :: starEach es env) : SdA p (a :: es) (.cons ca r) := fun X C g =>
  (pa_cons (ha X C g) (hr X C g) (hs _)).pq fun σ H Q ⟨μ, ρ, S, he, hs, h⟩ => by
    unfold evEs at h
    refine ⟨μ, ρ, S, he, hs, h.bind.imp fun d S1 μ1 H1 _ e1 s1 h1 v rv => ?_⟩
    refine ⟨μ1, ρ, S1, he.mono e1, s1, h1.bind.imp fun ds S2 μ2 H2 _ e2 s2 h2 vs rvs => ?_⟩
    exact h2.at s2 (v :: vs) (.cons (rv.mono e2) rvs)
theorem sd_tup {es : List Expr} {c : CEs} {k : Nat} (h : SdA p es c) : SdE p (.Tuple es k pos) (.tup c) := fun X C g =>
  (pe_tupN (h X C g)).pq fun σ H Q ⟨μ, ρ, S, he, hs, h⟩ => by
    unfold evE at h
    refine ⟨μ, ρ, S, he, hs, h.bind.imp fun ds S1 μ1 H1 _ e1 s1 h1 vs rvs => ?_⟩
    obtain ⟨z, h1⟩ := h1.ask
    refine ⟨by rw [← rvs.length]; exact z, fun q o hq c1 c2 => ?_⟩
    exact h1 μ1 _ (s1.fresh hq _) (s1.freshOk hq _) (.ref q) ⟨q, vs, rfl, .new c1 c2, rvs.mono (s1.fresh hq _), z⟩
theorem sq_disp {es : List Expr} {c : CEs} (h : SdA p es c) : SdQ p (.List es pos) (.disp c) := fun X C g =>
  (pe_lst (h X C g)).pq fun σ H Q ⟨μ, ρ, S, he, hs, h⟩ => by
    unfold evQ at h
    refine ⟨μ, ρ, S, he, hs, h.bind.imp fun ds S1 μ1 H1 _ e1 s1 h1 vs rvs => ?_⟩
    obtain ⟨z, h1⟩ := h1.ask
    refine ⟨by rw [← rvs.length]; exact z, fun q hq => ?_⟩
    refine h1 μ1 _ (s1.fresh hq _) (s1.freshOk hq _) q vs (e1.alive _ hq) upd_same (fun m => ?_) (rvs.mono (s1.fresh hq _)) z
    obtain ⟨u, e, _⟩ := s1.mem m
    rw [hq] at e; cases e
/-- a new list goes into the store -/
theorem sd_alloc {q : CQ} (h : SdQ p e q) : SdE p e (.alloc q) := fun X C g => (h X C g).pq fun σ H Q ⟨μ, ρ, S, he, hs, h⟩ => by
  unfold evE at h
  refine ⟨μ, ρ, S, he, hs, ?_⟩
  generalize evQ C q ρ S = r at h
  cases r with
  | ok ds S1 =>
    intro μ1 H1 e1 s1 a vs hn ha hm rvs hz
    refine h (μ1 ++ [a]) H1 (e1.take hn) (s1.take hm ha rvs hz) (.ref a) ⟨a, rfl, ?_⟩
    rw [← s1.len, List.getElem?_append_right (Nat.le_refl _), Nat.sub_self]
    rfl
  | exc c fs S' => exact h
  | bad => exact h
theorem sr_q {q : CQ} (h : SdQ p e q) : SdR p e (.q q) := fun X C g => (h X C g).pq fun σ H Q ⟨μ, ρ, S, he, hs, h⟩ => by
  unfold evR at h
  exact ⟨μ, ρ, S, he, hs, h.bind.imp fun ds S1 μ1 H1 _ e1 s1 h1 a vs hn ha hm rvs hz => h1.at s1 (.ref a) ⟨a, vs, rfl, ha, hm, rvs, hz⟩⟩
theorem sr_e (h : SdE p e ca) : SdR p e (.e ca) := fun X C g => (h X C g).pq fun σ H Q ⟨μ, ρ, S, he, hs, h⟩ => by
  unfold evR at h
  exact ⟨μ, ρ, S, he, hs, h.bind.imp fun d S1 μ1 H1 _ e1 s1 h1 v rv => h1.at s1 v rv⟩

/-! ### operators -/
/-- an operator of two values, by what it says of data -/
def OpS (g : D → D → Sto → Res D) (r : Fg → R2) : Prop := ∀ (K : Fg) (μ : List Addr) (H : Hp) (S : Sto) (x y : D) (v u : V) (Q : VK), StOk K μ H S → Rp K μ H x v → Rp K μ H y u → Po K μ H (g x y S) (fun d _ μ' H' => ∀ v, Rp K μ' H' d v → Q v H') → r K v u H Q
theorem tOp_imp {g : D → D → Sto → Res D} {r : Fg → R2} (hg : OpS g r) {K : Fg} {fa fb : En → Sto → Res D} {σ : Slots} {H : Hp} {Q : VK}
    (h : tE K (fun ρ S => (fa ρ S).bind fun x S1 => (fb ρ S1).bind fun y S2 => g x y S2) σ H Q) : tOp (r K) (tE K fa) (tE K fb) σ H Q := by
  obtain ⟨μ, ρ, S, he, hs, h⟩ := h
  refine ⟨μ, ρ, S, he, hs, h.bind.imp fun x S1 μ1 H1 _ e1 s1 h1 v rv => ?_⟩
  refine ⟨μ1, ρ, S1, he.mono e1, s1, h1.bind.imp fun y S2 μ2 H2 _ e2 s2 h2 u ru => ?_⟩
  exact hg K μ2 H2 S2 x y v u Q s2 (rv.mono e2) ru h2
theorem sd_bin {o : Bop} {op : Operator} {r : Fg → R2} (ho : ∀ X C, Good X p C → OpR X (binaryOp op) (r X.K)) (hg : OpS (binD o) r) (ha : SdE p a ca) (hb : SdE p b cb) : SdE p (.BinOp a op b pos) (.bin o ca cb) := fun X C g =>
  (pe_op (ho X C g) (ha X C g) (hb X C g)).pq fun σ H Q h => tOp_imp hg (by
    obtain ⟨μ, ρ, S, he, hs, h⟩ := h
    unfold evE at h
    exact ⟨μ, ρ, S, he, hs, h⟩)
theorem sd_cmp {o : Cop} {op : CmpOp} {r : Fg → R2} (ho : ∀ X C, Good X p C → OpR X (compareOp op) (r X.K)) (hg : OpS (cmpD o) r) (h1 : op ≠ .In) (h2 : op ≠ .NotIn) (ha : SdE p a ca) (hb : SdE p b cb) : SdE p (.Compare a [op] [b] pos) (.cmp o ca cb) := fun X C g =>
  (pe_cmpR (ho X C g) (ha X C g) (hb X C g) (nomark b h1 h2)).pq fun σ H Q h => tOp_imp hg (by
    obtain ⟨μ, ρ, S, he, hs, h⟩ := h
    unfold evE at h
    exact ⟨μ, ρ, S, he, hs, h⟩)

/-! the operators one by one -/
section
variable {K : Fg} {μ : List Addr} {H : Hp} {S : Sto} {x y d : D} {v u : V} {Q : VK}
theorem rp_tup {ds : List D} {p : Addr} {o : Obj} {vs : List V} (hs : StOk K μ H S) (hz : ds.length ≤ sizeLine) (r : RpA K μ H ds vs) (hp : H p = none) (c1 : o.cls = .type "tuple") (c2 : o.dict = none) : Rp K μ (upd H p (.frz o (.tup vs))) (.tup ds) (.ref p) :=
  ⟨p, vs, rfl, .new c1 c2, r.mono (hs.fresh hp _), hz⟩
/-- a new list at p that the store takes up -/
theorem take_new {ds : List D} {p : Addr} {vs : List V} (hs : StOk K μ H S) (hz : ds.length ≤ sizeLine) (r : RpA K μ H ds vs) (hp : H p = none) :
    Ext K μ H (μ ++ [p]) (upd H p (.lst vs)) ∧ StOk K (μ ++ [p]) (upd H p (.lst vs)) (S ++ [.lst ds]) ∧ Rp K (μ ++ [p]) (upd H p (.lst vs)) (.ref S.length) (.ref p) := by
  refine ⟨(hs.fresh hp _).take hp, (hs.freshOk hp _).take (fun m => ?_) upd_same (r.mono (hs.fresh hp _)) hz, p, rfl, ?_⟩
  · obtain ⟨w, e, _⟩ := hs.mem m
    rw [hp] at e; cases e
  · rw [← hs.len, List.getElem?_append_right (Nat.le_refl _), Nat.sub_self]
    rfl
theorem rp_ref {i : Nat} (r : Rp K μ H (.ref i) v) (hs : StOk K μ H S) {ds : List D} (e : S[i]? = some (.lst ds)) : ∃ a vs, v = .ref a ∧ μ[i]? = some a ∧ H a = some (.lst vs) ∧ RpA K μ H ds vs ∧ ds.length ≤ sizeLine := by
  obtain ⟨a, rfl, ea⟩ := r
  obtain ⟨vs, h1, h2, h3⟩ := hs.lst e ea
  exact ⟨a, vs, rfl, ea, h1, h2, h3⟩
end
end
end PQ

/-! The operators, subscripts, built-ins. -/
namespace PQ
open PySem PySem.Spec PyProof.Rows L2
section
variable {p : Pl} {a b c e : Expr} {ca cb cc : CE} {pos : Pos}
/-! ### arithmetic -/
theorem os_int {o : Bop} {g : Int → Int → Int} {C : Int → Int → Prop} (h1 : ∀ i j S, binD o (.int i) (.int j) S = ask (C i j) (.ok (.int (g i j)) S)) (h2 : ∀ x y S, (∀ i j, ¬ (x = .int i ∧ y = .int j)) → binD o x y S = .bad) : OpS (binD o) fun _ => rI C fun i j => .int (g i j) := by
  intro K μ H S x y v u Q hs rx ry h
  by_cases hc : ∃ i j, x = .int i ∧ y = .int j
  · obtain ⟨i, j, rfl, rfl⟩ := hc
    rw [h1] at h
    obtain ⟨hc, h⟩ := h.ask
    exact ⟨i, j, rx, ry, hc, h.at hs _ rfl⟩
  · rw [h2 x y S (fun i j z => hc ⟨i, j, z⟩)] at h
    exact h.elim
theorem os_int0 {o : Bop} {g : Int → Int → Int} (h1 : ∀ i j S, binD o (.int i) (.int j) S = .ok (.int (g i j)) S) (h2 : ∀ x y S, (∀ i j, ¬ (x = .int i ∧ y = .int j)) → binD o x y S = .bad) : OpS (binD o) fun _ => rI0 fun i j => .int (g i j) := by
  intro K μ H S x y v u Q hs rx ry h
  by_cases hc : ∃ i j, x = .int i ∧ y = .int j
  · obtain ⟨i, j, rfl, rfl⟩ := hc
    rw [h1] at h
    exact ⟨i, j, rx, ry, h.at hs _ rfl⟩
  · rw [h2 x y S (fun i j z => hc ⟨i, j, z⟩)] at h
    exact h.elim
/-- the other cases of an operator of ints -/
theorem bin_else (o : Bop) (ho : (match o with | .add => false | .mul => false | _ => true) = true) (x y : D) (S : Sto) (h : ∀ i j, ¬ (x = .int i ∧ y = .int j)) : binD o x y S = .bad := by
  cases o <;> first | (cases ho; done) | (cases x <;> cases y <;> first | rfl | exact absurd ⟨rfl, rfl⟩ (h _ _))
def rAddB : R2 := fun x y H Q => ∃ i b, x = .int i ∧ y = .bl b ∧ Q (.int (i + if b = true then 1 else 0)) H
theorem op_addB {X : Cx} : OpR X (binaryOp .Add) rAddB := by
  intro pins s σ H x y v u Q I rx ry q
  obtain ⟨i, b, rfl, rfl, q⟩ := q
  obtain ⟨t, rfl⟩ := rx
  cases ry
  exact add_int_bool ⟨.int _, H, I.tok _, ⟨_, rfl⟩, q⟩
def rMulS : R2 := fun x y H Q => ∃ a k, x = .str a ∧ y = .int k ∧ MulOk a k ∧ Q (.str (Txt.mul a k)) H
theorem op_mulS {X : Cx} : OpR X (binaryOp .Mult) rMulS := by
  intro pins s σ H x y v u Q I rx ry q
  obtain ⟨a, k, rfl, rfl, hk, q⟩ := q
  obtain ⟨t, rfl⟩ := rx
  obtain ⟨t', rfl⟩ := ry
  exact SB.mul hk fun t2 k2 => ⟨.str _, H, I.tok _, ⟨_, rfl⟩, q⟩
def rAdd4 (K : Fg) : R2 := fun x y H Q => rI0 (fun i j => .int (i + j)) x y H Q ∨ ((∃ i j, x = .str i ∧ y = .str j ∧ i.length + j.length ≤ sizeLine ∧ Q (.str (i ++ j)) H) ∨ (rCatN K x y H Q ∨ (rCat x y H Q ∨ rAddB x y H Q)))
theorem os_add : OpS (binD .add) rAdd4 := by
  intro K μ H S x y v u Q hs rx ry h
  cases x with
  | int i =>
    cases y with
    | int j => exact .inl ⟨i, j, rx, ry, h.at hs _ rfl⟩
    | bl b => exact .inr (.inr (.inr (.inr ⟨i, b, rx, ry, h.at hs _ rfl⟩)))
    | _ => exact (show False from h).elim
  | str i =>
    cases y with
    | str j =>
      obtain ⟨z, h⟩ := Po.ask h
      exact .inr (.inl ⟨i, j, rx, ry, z, h.at hs _ rfl⟩)
    | _ => exact (show False from h).elim
  | tup ds =>
    cases y with
    | tup es =>
      obtain ⟨z, h⟩ := Po.ask h
      obtain ⟨q1, vs, rfl, ha, ra, za⟩ := rx
      obtain ⟨q2, us, rfl, hb, rb, zb⟩ := ry
      refine .inr (.inr (.inl ⟨q1, q2, vs, us, rfl, rfl, ha.sq, hb.sq, by rw [← ra.length, ← rb.length]; exact z, fun e => ?_, fun _ e => ?_, fun _ _ p o hp c1 c2 => ?_⟩))
      · refine h.at hs _ ?_
        have : ds = [] := List.eq_nil_of_length_eq_zero (by rw [ra.length, e]; rfl)
        subst this
        exact ⟨q2, us, rfl, hb, rb, zb⟩
      · refine h.at hs _ ?_
        have : es = [] := List.eq_nil_of_length_eq_zero (by rw [rb.length, e]; rfl)
        subst this
        rw [List.append_nil]
        exact ⟨q1, vs, rfl, ha, ra, za⟩
      · exact h μ _ (hs.fresh hp _) (hs.freshOk hp _) _ (rp_tup hs (by rw [List.length_append]; exact z) (ra.append rb) hp c1 c2)
    | _ => exact (show False from h).elim
  | ref i =>
    cases y with
    | ref j =>
      have h : Po K μ H (match S[i]?, S[j]? with
        | some (.lst a), some (.lst b) => ask (a.length + b.length ≤ sizeLine) (Res.ok (D.ref S.length) (S ++ [Ob.lst (a ++ b)]))
        | _, _ => Res.bad) _ := h
      cases ei : S[i]? with
      | none => rw [ei] at h; exact (show False from h).elim
      | some o =>
        cases ej : S[j]? with
        | none => rw [ei, ej] at h; cases o <;> exact (show False from h).elim
        | some o' =>
          rw [ei, ej] at h
          cases o with
          | dic ks => first | (cases h; done) | exact (show False from h).elim
          | lst ds =>
            cases o' with
            | dic ks => first | (cases h; done) | exact (show False from h).elim
            | lst es =>
              obtain ⟨z, h⟩ := Po.ask h
              obtain ⟨q1, vs, rfl, _, ha, ra, _⟩ := rp_ref rx hs ei
              obtain ⟨q2, us, rfl, _, hb, rb, _⟩ := rp_ref ry hs ej
              refine .inr (.inr (.inr (.inl ⟨q1, q2, vs, us, rfl, rfl, ha, hb, by rw [← ra.length, ← rb.length]; exact z, fun p hp => ?_⟩)))
              obtain ⟨e1, s1, r1⟩ := take_new hs (by rw [List.length_append]; exact z) (ra.append rb) hp
              exact h _ _ e1 s1 _ r1
    | _ => exact (show False from h).elim
  | _ => exact (show False from h).elim
theorem sd_add (ha : SdE p a ca) (hb : SdE p b cb) : SdE p (.BinOp a .Add b pos) (.bin .add ca cb) := sd_bin (fun X C g => op_add.or (op_add_str.or (op_catN.or (op_cat.or op_addB)))) os_add ha hb
theorem sd_sub (ha : SdE p a ca) (hb : SdE p b cb) : SdE p (.BinOp a .Sub b pos) (.bin .sub ca cb) := sd_bin (fun X C g => op_sub) (os_int0 (fun _ _ _ => rfl) (bin_else .sub rfl)) ha hb
theorem opI' {X : Cx} {f : Value → Value → Sem Value} {C : Int → Int → Prop} {g : Int → Int → Int} (h : ∀ i j t u (Q : Value → Shared → Prop) s, C i j → (∀ t', Q (.int (g i j) t') { s with toks := s.toks + 1 }) → wpAny (model X.prog X.w) X.A (f (.int i t) (.int j u)) Q X.xe s) : OpR X f (rI C fun i j => .int (g i j)) := by
  intro pins s σ H x y v u Q I rx ry q
  obtain ⟨i, j, rfl, rfl, hc, q⟩ := q
  obtain ⟨t, rfl⟩ := rx
  obtain ⟨t', rfl⟩ := ry
  exact h i j t t' _ s hc fun t2 => ⟨.int _, H, I.tok _, ⟨_, rfl⟩, q⟩
def rMul2 : R2 := fun x y H Q => rI IntMulOk (fun i j => .int (i * j)) x y H Q ∨ (rRep x y H Q ∨ rMulS x y H Q)
theorem os_mul : OpS (binD .mul) fun _ => rMul2 := by
  intro K μ H S x y v u Q hs rx ry h
  cases x with
  | int i =>
    cases y with
    | int j =>
      obtain ⟨z, h⟩ := Po.ask h
      exact .inl ⟨i, j, rx, ry, z, h.at hs _ rfl⟩
    | _ => exact (show False from h).elim
  | ref i =>
    cases y with
    | int k =>
      have h : Po K μ H (match S[i]? with
        | some (.lst a) => ask (-(2 ^ 63) ≤ k ∧ k < 2 ^ 63 ∧ a.length * k.toNat ≤ sizeLine) (Res.ok (D.ref S.length) (S ++ [Ob.lst (List.replicate k.toNat a).flatten]))
        | _ => Res.bad) _ := h
      cases ei : S[i]? with
      | none => rw [ei] at h; exact (show False from h).elim
      | some o =>
        rw [ei] at h
        cases o with
        | dic ks => first | (cases h; done) | exact (show False from h).elim
        | lst ds =>
          obtain ⟨⟨k1, k2, z⟩, h⟩ := Po.ask h
          obtain ⟨q1, vs, rfl, _, ha, ra, _⟩ := rp_ref rx hs ei
          refine .inr (.inl ⟨q1, k, vs, rfl, ry, ha, k1, k2, by rw [← ra.length]; exact z, fun p hp => ?_⟩)
          have rep : ∀ n : Nat, RpA K μ H (List.replicate n ds).flatten (List.replicate n vs).flatten := fun n => by
            induction n with
            | zero => exact .nil
            | succ n ih =>
              rw [List.replicate_succ, List.replicate_succ, List.flatten_cons, List.flatten_cons]
              exact ra.append ih
          have zl : (List.replicate k.toNat ds).flatten.length ≤ sizeLine := by
            rw [List.length_flatten, List.map_replicate, List.sum_replicate_nat, Nat.mul_comm]
            exact z
          obtain ⟨e1, s1, r1⟩ := take_new hs zl (rep k.toNat) hp
          exact h _ _ e1 s1 _ r1
    | _ => exact (show False from h).elim
  | str a =>
    cases y with
    | int k =>
      obtain ⟨z, h⟩ := Po.ask (show Po K μ H (ask (MulOk a k) (Res.ok (D.str (Txt.mul a k)) S)) _ from h)
      exact .inr (.inr ⟨a, k, rx, ry, z, h.at hs _ rfl⟩)
    | _ => exact (show False from h).elim
  | _ => exact (show False from h).elim
theorem sd_mul (ha : SdE p a ca) (hb : SdE p b cb) : SdE p (.BinOp a .Mult b pos) (.bin .mul ca cb) := sd_bin (r := fun _ => rMul2) (fun X C g => (opI' fun _ _ _ _ _ _ hc q => mul_int (q _) hc).or (op_rep.or op_mulS)) os_mul ha hb
theorem sd_fdiv (ha : SdE p a ca) (hb : SdE p b cb) : SdE p (.BinOp a .FloorDiv b pos) (.bin .fdiv ca cb) :=
  sd_bin (r := fun _ => rI FDivOk fun i j => .int (i.fdiv j)) (fun X C g => opI' fun _ _ _ _ _ _ hc q => floordiv_int hc.1 (q _) (.inl hc.2)) (os_int (fun _ _ _ => rfl) (bin_else .fdiv rfl)) ha hb
theorem sd_mod (ha : SdE p a ca) (hb : SdE p b cb) : SdE p (.BinOp a .Mod b pos) (.bin .mod ca cb) :=
  sd_bin (r := fun _ => rI (fun _ j => j ≠ 0) fun i j => .int (i.fmod j)) (fun X C g => op_modN) (os_int (C := fun _ j => j ≠ 0) (fun _ _ _ => rfl) (bin_else .mod rfl)) ha hb
theorem sd_pow (ha : SdE p a ca) (hb : SdE p b cb) : SdE p (.BinOp a .Pow b pos) (.bin .pow ca cb) :=
  sd_bin (r := fun _ => rI CPow fun i j => .int (i ^ j.toNat)) (fun X C g => op_pow) (os_int (C := CPow) (fun _ _ _ => rfl) (bin_else .pow rfl)) ha hb
theorem sd_shl (ha : SdE p a ca) (hb : SdE p b cb) : SdE p (.BinOp a .LShift b pos) (.bin .shl ca cb) :=
  sd_bin (r := fun _ => rI CPow fun i j => .int (i * 2 ^ j.toNat)) (fun X C g => op_shl) (os_int (C := CPow) (fun _ _ _ => rfl) (bin_else .shl rfl)) ha hb
theorem sd_shr (ha : SdE p a ca) (hb : SdE p b cb) : SdE p (.BinOp a .RShift b pos) (.bin .shr ca cb) :=
  sd_bin (r := fun _ => rI (fun _ j => 0 ≤ j) fun i j => .int (i / 2 ^ j.toNat)) (fun X C g => op_shr) (os_int (C := fun _ j => 0 ≤ j) (fun _ _ _ => rfl) (bin_else .shr rfl)) ha hb
theorem sd_band (ha : SdE p a ca) (hb : SdE p b cb) : SdE p (.BinOp a .BitAnd b pos) (.bin .band ca cb) := sd_bin (fun X C g => op_and) (os_int0 (fun _ _ _ => rfl) (bin_else .band rfl)) ha hb
theorem sd_bor (ha : SdE p a ca) (hb : SdE p b cb) : SdE p (.BinOp a .BitOr b pos) (.bin .bor ca cb) := sd_bin (fun X C g => op_or) (os_int0 (fun _ _ _ => rfl) (bin_else .bor rfl)) ha hb
theorem sd_bxor (ha : SdE p a ca) (hb : SdE p b cb) : SdE p (.BinOp a .BitXor b pos) (.bin .bxor ca cb) := sd_bin (fun X C g => op_xor) (os_int0 (fun _ _ _ => rfl) (bin_else .bxor rfl)) ha hb
theorem sd_neg (ha : SdE p a ca) : SdE p (.UnaryOp .USub a pos) (.neg ca) := fun X C g => (pe_un un_neg (ha X C g)).pq fun σ H Q ⟨μ, ρ, S, he, hs, h⟩ => by
  unfold evE at h
  refine ⟨μ, ρ, S, he, hs, h.bind.imp fun x S1 μ1 H1 _ e1 s1 h1 v rv => ?_⟩
  cases x with
  | int i => exact ⟨i, rv, h1.at s1 _ rfl⟩
  | _ => exact (show False from h1).elim

/-! ### comparisons -/
section
variable {K : Fg} {μ : List Addr} {H : Hp} {S : Sto}
theorem refP_dp (hs : StOk K μ H S) : ∀ (n i : Nat) (a : Addr) (q : PyData), μ[i]? = some a → refP S n i = some q → Dp K H (.ref a) q
  | 0, _, _, _, _, h => by cases h
  | n + 1, i, a, q, ea, h => by
    have h : (match S[i]? with
      | some (Ob.lst ds) => (toPsW (refP S n) ds).map PyData.list
      | _ => none) = some q := h
    cases ei : S[i]? with
    | none => rw [ei] at h; cases h
    | some o =>
      rw [ei] at h
      cases o with
      | dic ks => first | (cases h; done) | exact (show False from h).elim
      | lst ds =>
        obtain ⟨vs, h1, h2, _⟩ := hs.lst ei ea
        cases e : toPsW (refP S n) ds with
        | none => have h : (toPsW (refP S n) ds).map PyData.list = some q := h; rw [e] at h; cases h
        | some qs =>
          have h : (toPsW (refP S n) ds).map PyData.list = some q := h
          rw [e] at h
          cases h
          exact .lst (.of h1) (go hs n ds vs qs h2 e)
where
  go (hs : StOk K μ H S) (n : Nat) : ∀ (ds : List D) (vs : List V) (qs : List PyData), RpA K μ H ds vs → toPsW (refP S n) ds = some qs → DpAll K H vs qs
    | [], _, _, r, h => by
      cases h
      rw [show _ = ([] : List V) from r]
      exact .nil
    | d :: ds, _, qs, ⟨v, r, h1, h2, h3⟩, h => by
      have h : (match toPW (refP S n) d, toPsW (refP S n) ds with
        | some p, some ps => some (p :: ps)
        | _, _ => none) = some qs := h
      cases e1 : toPW (refP S n) d with
      | none => rw [e1] at h; cases h
      | some q1 =>
        cases e2 : toPsW (refP S n) ds with
        | none => rw [e1, e2] at h; cases h
        | some q2 =>
          rw [e1, e2] at h
          cases h
          rw [h1]
          exact .cons (one hs n d v q1 h2 e1) (go hs n ds r q2 h3 e2)
  one (hs : StOk K μ H S) (n : Nat) : ∀ (d : D) (v : V) (q : PyData), Rp K μ H d v → toPW (refP S n) d = some q → Dp K H v q
    | .non, _, _, r, h => by cases h; rw [show _ = V.non from r]; exact .non
    | .bl b, _, _, r, h => by cases h; rw [show _ = V.bl b from r]; exact .bl b
    | .int i, _, _, r, h => by cases h; rw [show _ = V.int i from r]; exact .int i
    | .str x, _, _, r, h => by cases h; rw [show _ = V.str x from r]; exact .str x
    | .tup ds, _, q, ⟨a, vs, e, h1, h2, _⟩, h => by
      have h : (toPsW (refP S n) ds).map PyData.tuple = some q := h
      cases e1 : toPsW (refP S n) ds with
      | none => rw [e1] at h; cases h
      | some qs =>
        rw [e1] at h
        cases h
        rw [e]
        exact .tup h1.sq (go hs n ds vs qs h2 e1)
    | .fix ds, _, q, ⟨a, vs, e, h1, h2, _⟩, h => by
      have h : (toPsW (refP S n) ds).map PyData.list = some q := h
      cases e1 : toPsW (refP S n) ds with
      | none => rw [e1] at h; cases h
      | some qs =>
        rw [e1] at h
        cases h
        rw [e]
        exact .lst h1.sq (go hs n ds vs qs h2 e1)
    | .ref i, _, q, ⟨a, e, ea⟩, h => by
      rw [e]
      exact refP_dp hs n i a q ea h
theorem toP_dp (hs : StOk K μ H S) {d : D} {v : V} {q : PyData} (r : Rp K μ H d v) (h : toP S d = some q) : Dp K H v q := refP_dp.one hs 8 d v q r h
theorem toPs_dp (hs : StOk K μ H S) {ds : List D} {vs : List V} {qs : List PyData} (r : RpA K μ H ds vs) (h : toPs S ds = some qs) : DpAll K H vs qs := refP_dp.go hs 8 ds vs qs r h
end
section
variable {K : Fg} {μ : List Addr} {H : Hp} {S : Sto} {x y : D} {v u : V}
theorem scal_rp (rx : Rp K μ H x v) (ry : Rp K μ H y u) (h : scalD x y = true) : scal v u = true ∧ decide (v = u) = eqSc x y := by
  cases x <;> cases y <;> first
    | (cases h; done)
    | (cases rx; cases ry; refine ⟨rfl, ?_⟩; simp [eqSc])
/-- == and != of data -/
def rEq2 (K : Fg) (neg : Bool) : R2 := fun x y H Q => (scal x y = true ∧ Q (.bl (if neg then !decide (x = y) else decide (x = y))) H) ∨ ∃ d e, Dp K H x d ∧ Dp K H y e ∧ SeqAt.shaped d = true ∧ SeqAt.shaped e = true ∧ Q (.bl (if neg then !PyData.eqv d e else PyData.eqv d e)) H
theorem dEq_ok (hs : StOk K μ H S) {Q : VK} {b : Bool} (neg : Bool) (rx : Rp K μ H x v) (ry : Rp K μ H y u) (h : dEq S x y = some b) (q : Q (.bl (if neg then !b else b)) H) : rEq2 K neg v u H Q := by
  unfold dEq at h
  split at h
  · rename_i hc
    obtain ⟨h1, h2⟩ := scal_rp rx ry hc
    cases h
    exact .inl ⟨h1, by rw [h2]; exact q⟩
  · split at h
    · rename_i p1 p2 e1 e2
      split at h
      · rename_i hsh
        cases h
        rw [Bool.and_eq_true] at hsh
        exact .inr ⟨p1, p2, toP_dp hs rx e1, toP_dp hs ry e2, hsh.1, hsh.2, q⟩
      · cases h
    · cases h
end
theorem os_cmpI {o : Cop} {g : Int → Int → Bool} (h1 : ∀ i j S, cmpD o (.int i) (.int j) S = .ok (.bl (g i j)) S) (h2 : ∀ x y S, (∀ i j, ¬ (x = .int i ∧ y = .int j)) → cmpD o x y S = .bad) : OpS (cmpD o) fun _ => rI0 fun i j => .bl (g i j) := by
  intro K μ H S x y v u Q hs rx ry h
  by_cases hc : ∃ i j, x = .int i ∧ y = .int j
  · obtain ⟨i, j, rfl, rfl⟩ := hc
    rw [h1] at h
    exact ⟨i, j, rx, ry, h.at hs _ rfl⟩
  · rw [h2 x y S (fun i j z => hc ⟨i, j, z⟩)] at h
    exact h.elim
theorem cmp_else (o : Cop) (ho : (match o with | .eq => false | .ne => false | _ => true) = true) (x y : D) (S : Sto) (h : ∀ i j, ¬ (x = .int i ∧ y = .int j)) : cmpD o x y S = .bad := by
  cases o <;> first | (cases ho; done) | (cases x <;> cases y <;> first | rfl | exact absurd ⟨rfl, rfl⟩ (h _ _))
/-- is None -/
theorem isN_rp {K : Fg} {μ : List Addr} {H : Hp} {x : D} {v : V} (r : Rp K μ H x v) : decide (v = V.non) = isNon x := by
  cases x with
  | tup ds => obtain ⟨a, vs, rfl, _⟩ := r; rfl
  | fix ds => obtain ⟨a, vs, rfl, _⟩ := r; rfl
  | ref i => obtain ⟨a, rfl, _⟩ := r; rfl
  | _ => cases r; rfl
end
end PQ

/-! Tests, subscripts, calls, built-ins. -/
namespace PQ
open PySem PySem.Spec PyProof.Rows L2

/-! ### conditions on the text -/
def notStar : Expr → Bool
  | .Starred .. => false
  | _ => true
theorem star_cons {e : Expr} (h : notStar e = true) (es : List Expr) (env : Env) : starEach (e :: es) env = (false, eval e env) :: starEach es env := by
  cases e <;> first | rfl | (cases h; done)
theorem star_any : ∀ {es : List Expr} (pos : Pos) (env : Env), es.all notStar = true → (backTo pos (starEach es env)).any (·.1) = false
  | [], _, _, _ => rfl
  | e :: es, pos, env, h => by
    rw [List.all_cons, Bool.and_eq_true] at h
    rw [star_cons h.1]
    show (false || (backTo pos (starEach es env)).any (·.1)) = false
    rw [star_any pos env h.2]
    rfl
def plainTest : Expr → Bool
  | .UnaryOp .Not _ _ => false
  | .BoolOp .. => false
  | .IfExp .. => false
  | .Compare .. => false
  | _ => true
theorem plain_true {e : Expr} (h : plainTest e = true) (env : Env) (w : Sem Value) : isTrue e env w = (do let v ← w; standAt e.pos; holding [v] (truthy v)) := by
  cases e with
  | UnaryOp o a p => cases o <;> first | rfl | (cases h; done)
  | _ => first | rfl | (cases h; done)
def notSlice : Expr → Bool
  | .Slice .. => false
  | _ => true
theorem plain_ix {e : Expr} (h : notSlice e = true) : PlainIx e := by
  intro o i
  cases e <;> first | rfl | (cases h; done)
theorem aug_store {i : Expr} (h : notSlice i = true) (ov iv new : Value) : augStore i ov iv new = (do holding [new, ov, iv] (setItem ov iv new); release [new, ov, iv] []; pure .next) := by
  cases i <;> first | rfl | (cases h; done)
theorem sub_store {o i : Expr} {pos : Pos} (h : notSlice i = true) (env : Env) (v : Value) : assign (.Subscript o i pos) env v = (do
      let ov ← holding [v] (eval o env)
      let iv ← holding [v, ov] (eval i env)
      standAt pos
      holding [v, ov, iv] (setItem ov iv v)
      release [v, ov, iv] []) := by
  cases i <;> first | rfl | (cases h; done)
def notComp : Expr → Bool
  | .ListComp .. => false
  | .SetComp .. => false
  | .DictComp .. => false
  | _ => true
theorem no_swap {e : Expr} (h : notComp e = true) (t : Option Expr) (l : Nat) (env : Env) : swapsWith e t l env = pure false := by
  cases e <;> first | rfl | (cases h; done)
def notSet : Expr → Bool
  | .Set .. => false
  | _ => true
theorem no_fold {e : Expr} (h : notSet e = true) (env : Env) (x : Value) : foldedSetIterable e env x = pure x := by
  cases e <;> first | rfl | (cases h; done)
def notCall : Expr → Bool
  | .Call .. => false
  | _ => true
theorem plain_base {e : Expr} (h : notCall e = true) (n : Str) (env : Env) (w : Sem Value) : attributeBase e n env w = w := by
  cases e <;> first | rfl | (cases h; done)

section
variable {p : Pl} {a b c e : Expr} {ca cb cc : CE} {pos : Pos} {ta tb : CT}
/-! ### truth -/
theorem tru_rp {K : Fg} {μ : List Addr} {H : Hp} {S : Sto} (hs : StOk K μ H S) {x : D} {v : V} {k : Bool} (r : Rp K μ H x v) (h : tru S x = some k) : TruV K v H k := by
  have emp : ∀ {ds : List D} {vs : List V}, RpA K μ H ds vs → (!ds.isEmpty) = !vs.isEmpty := fun {ds vs} r => by
    have := r.length
    cases ds <;> cases vs <;> first | rfl | (simp at this)
  cases x with
  | non => cases r; cases h; rfl
  | bl b => cases r; cases h; rfl
  | int i => cases r; cases h; rfl
  | str x =>
    cases r
    have h : (if x.length ≤ sizeLine then some (x.length != 0) else none) = some k := h
    split at h
    · cases h
      refine ⟨by assumption, ?_⟩
      rw [Bool.eq_iff_iff]
      simp only [bne_iff_ne, ne_eq]
      omega
    · cases h
  | tup ds =>
    obtain ⟨a, vs, rfl, h1, h2, _⟩ := r
    cases h
    exact .inr (.inl ⟨vs, h1.sq, emp h2⟩)
  | fix ds =>
    obtain ⟨a, vs, rfl, h1, h2, _⟩ := r
    cases h
    exact .inl ⟨vs, h1.sq, emp h2⟩
  | ref i =>
    have h : (match S[i]? with
      | some (Ob.lst ds) => some (!ds.isEmpty)
      | _ => none) = some k := h
    cases ei : S[i]? with
    | none => rw [ei] at h; cases h
    | some o =>
      rw [ei] at h
      cases o with
      | dic ks => first | (cases h; done) | exact (show False from h).elim
      | lst ds =>
        obtain ⟨a, vs, rfl, _, h1, h2, _⟩ := rp_ref r hs ei
        cases h
        exact .inl ⟨vs, .of h1, emp h2⟩
theorem sd_and {rest : List Expr} (ha : SdE p a ca) (hb : SdE p (.BoolOp .And (b :: rest) pos) cb) : SdE p (.BoolOp .And (a :: b :: rest) pos) (.and ca cb) := fun X C g => (pe_andT (ha X C g) (hb X C g)).pq fun σ H Q ⟨μ, ρ, S, he, hs, h⟩ => by
  unfold evE at h
  refine ⟨μ, ρ, S, he, hs, h.bind.imp fun x S1 μ1 H1 _ e1 s1 h1 v rv => ?_⟩
  obtain ⟨k, ek, h1⟩ := h1.may
  refine ⟨k, tru_rp s1 rv ek, ?_⟩
  cases k with
  | true => rw [if_pos rfl] at h1 ⊢; exact ⟨μ1, ρ, S1, he.mono e1, s1, h1⟩
  | false => rw [if_neg Bool.false_ne_true] at h1 ⊢; exact h1.at s1 v rv
theorem sd_or {rest : List Expr} (ha : SdE p a ca) (hb : SdE p (.BoolOp .Or (b :: rest) pos) cb) : SdE p (.BoolOp .Or (a :: b :: rest) pos) (.or ca cb) := fun X C g => (pe_orT (ha X C g) (hb X C g)).pq fun σ H Q ⟨μ, ρ, S, he, hs, h⟩ => by
  unfold evE at h
  refine ⟨μ, ρ, S, he, hs, h.bind.imp fun x S1 μ1 H1 _ e1 s1 h1 v rv => ?_⟩
  obtain ⟨k, ek, h1⟩ := h1.may
  refine ⟨k, tru_rp s1 rv ek, ?_⟩
  cases k with
  | true => rw [if_pos rfl] at h1 ⊢; exact h1.at s1 v rv
  | false => rw [if_neg Bool.false_ne_true] at h1 ⊢; exact ⟨μ1, ρ, S1, he.mono e1, s1, h1⟩
theorem sd_one {op} (ha : SdE p a ca) : SdE p (.BoolOp op [a] pos) ca := fun X C g => pe_one (ha X C g)
theorem sd_not (ha : SdE p a ca) : SdE p (.UnaryOp .Not a pos) (.not ca) := fun X C g => (pe_notT (ha X C g)).pq fun σ H Q ⟨μ, ρ, S, he, hs, h⟩ => by
  unfold evE at h
  refine ⟨μ, ρ, S, he, hs, h.bind.imp fun x S1 μ1 H1 _ e1 s1 h1 v rv => ?_⟩
  obtain ⟨k, ek, h1⟩ := h1.may
  exact ⟨k, tru_rp s1 rv ek, h1.at s1 _ rfl⟩
theorem sd_ife (ht : SdT p c ta) (ha : SdE p a ca) (hb : SdE p b cb) : SdE p (.IfExp c a b pos) (.ife ta ca cb) := fun X C g => (pe_ifExp (ht X C g) (ha X C g) (hb X C g)).pq fun σ H Q ⟨μ, ρ, S, he, hs, h⟩ => by
  unfold evE at h
  refine ⟨μ, ρ, S, he, hs, h.bind.imp fun k S1 μ1 H1 _ e1 s1 h1 => ?_⟩
  cases k with
  | true => rw [if_pos rfl] at h1 ⊢; exact ⟨μ1, ρ, S1, he.mono e1, s1, h1⟩
  | false => rw [if_neg Bool.false_ne_true] at h1 ⊢; exact ⟨μ1, ρ, S1, he.mono e1, s1, h1⟩

/-! ### tests -/
theorem st_plain (h : plainTest e = true) (ha : SdE p e ca) : SdT p e (.v ca) := fun X C g => (pt_truth (ha X C g) (fun w => plain_true h _ w)).pq fun σ H Q ⟨μ, ρ, S, he, hs, h⟩ => by
  unfold evT at h
  refine ⟨μ, ρ, S, he, hs, h.bind.imp fun x S1 μ1 H1 _ e1 s1 h1 v rv => ?_⟩
  obtain ⟨k, ek, h1⟩ := h1.may
  exact ⟨k, tru_rp s1 rv ek, h1.at s1⟩
/-- a comparison: its value, its test -/
def SdC (p : Pl) (e : Expr) (c : CE) : Prop := ∀ X C, Good X p C → ∃ t, PE X e t ∧ PT X e (tTest t) ∧ ∀ σ H Q, tE X.K (evE C c) σ H Q → t σ H Q
def isB : D → Bool
  | .bl _ => true
  | _ => false
theorem SdC.val (h : SdC p e ca) : SdE p e ca := fun X C g => by
  obtain ⟨t, h1, _, h3⟩ := h X C g
  exact h1.pq h3
theorem SdC.test (h : SdC p e ca) (hb : ∀ C ρ S d S', evE C ca ρ S = .ok d S' → isB d = true) : SdT p e (.v ca) := fun X C g => by
  obtain ⟨t, _, h2, h3⟩ := h X C g
  refine h2.pq fun σ H Q ⟨μ, ρ, S, he, hs, h⟩ => h3 σ H _ ?_
  unfold evT at h
  refine ⟨μ, ρ, S, he, hs, h.bind.imp fun x S1 μ1 H1 ex e1 s1 h1 v rv => ?_⟩
  have := hb _ _ _ _ _ ex
  cases x with
  | bl b =>
    cases rv
    obtain ⟨k, ek, h1⟩ := h1.may
    cases ek
    exact ⟨b, rfl, h1.at s1⟩
  | _ => cases this
theorem sw_and1 (ha : SdT p a ta) : SdW p (.BoolOp .And [a] pos) ta := fun X C g => pw_and1 (ha X C g)
theorem sw_or1 (ha : SdT p a ta) : SdW p (.BoolOp .Or [a] pos) ta := fun X C g => pw_or1 (ha X C g)
theorem sw_and {rest : List Expr} (ha : SdT p a ta) (hb : SdW p (.BoolOp .And (b :: rest) pos) tb) : SdW p (.BoolOp .And (a :: b :: rest) pos) (.and ta tb) := fun X C g => (pw_and (ha X C g) (hb X C g)).pq fun σ H Q ⟨μ, ρ, S, he, hs, h⟩ => by
  unfold evT at h
  refine ⟨μ, ρ, S, he, hs, h.bind.imp fun k S1 μ1 H1 _ e1 s1 h1 => ?_⟩
  cases k with
  | true => rw [if_pos rfl] at h1 ⊢; exact ⟨μ1, ρ, S1, he.mono e1, s1, h1⟩
  | false => rw [if_neg Bool.false_ne_true] at h1 ⊢; exact h1.at s1
theorem sw_or {rest : List Expr} (ha : SdT p a ta) (hb : SdW p (.BoolOp .Or (b :: rest) pos) tb) : SdW p (.BoolOp .Or (a :: b :: rest) pos) (.or ta tb) := fun X C g => (pw_or (ha X C g) (hb X C g)).pq fun σ H Q ⟨μ, ρ, S, he, hs, h⟩ => by
  unfold evT at h
  refine ⟨μ, ρ, S, he, hs, h.bind.imp fun k S1 μ1 H1 _ e1 s1 h1 => ?_⟩
  cases k with
  | true => rw [if_pos rfl] at h1 ⊢; exact h1.at s1
  | false => rw [if_neg Bool.false_ne_true] at h1 ⊢; exact ⟨μ1, ρ, S1, he.mono e1, s1, h1⟩
theorem st_w (h : SdW p e ta) : SdT p e ta := fun X C g => (h X C g).pt
theorem st_not (ha : SdT p a ta) : SdT p (.UnaryOp .Not a pos) (.not ta) := fun X C g => (pt_not (ha X C g)).pq fun σ H Q ⟨μ, ρ, S, he, hs, h⟩ => by
  unfold evT at h
  exact ⟨μ, ρ, S, he, hs, h.bind.imp fun k S1 μ1 H1 _ e1 s1 h1 => h1.at s1⟩

/-! ### comparisons by their sign -/
def copOp : Cop → CmpOp
  | .eq => .Eq | .ne => .NotEq | .lt => .Lt | .le => .LtE | .gt => .Gt | .ge => .GtE
def copR : Cop → Fg → R2
  | .eq, K => rEq2 K false
  | .ne, K => rEq2 K true
  | .lt, _ => rI0 fun i j => .bl (decide (i < j))
  | .le, _ => rI0 fun i j => .bl (decide (i ≤ j))
  | .gt, _ => rI0 fun i j => .bl (decide (j < i))
  | .ge, _ => rI0 fun i j => .bl (decide (j ≤ i))
theorem cop_op (o : Cop) (X : Cx) (C : Orc) (g : Good X p C) : OpR X (compareOp (copOp o)) (copR o X.K) := by
  have := g.un
  cases o with
  | eq => exact op_eq.or (op_eqD (by omega))
  | ne => exact op_ne.or (op_neD (by omega))
  | lt => exact op_lt
  | le => exact op_le
  | gt => exact op_gt
  | ge => exact op_ge
theorem cop_os (o : Cop) : OpS (cmpD o) (copR o) := by
  cases o with
  | eq =>
      intro K μ H S x y v u Q hs rx ry h
      obtain ⟨b, e, h⟩ := Po.may (show Po K μ H (may (dEq S x y) fun b => Res.ok (D.bl b) S) _ from h)
      exact dEq_ok hs false rx ry e (h.at hs _ rfl)
  | ne =>
      intro K μ H S x y v u Q hs rx ry h
      obtain ⟨b, e, h⟩ := Po.may (show Po K μ H (may (dEq S x y) fun b => Res.ok (D.bl (!b)) S) _ from h)
      exact dEq_ok hs true rx ry e (h.at hs _ rfl)
  | lt => exact os_cmpI (fun _ _ _ => rfl) (cmp_else .lt rfl)
  | le => exact os_cmpI (fun _ _ _ => rfl) (cmp_else .le rfl)
  | gt => exact os_cmpI (fun _ _ _ => rfl) (cmp_else .gt rfl)
  | ge => exact os_cmpI (fun _ _ _ => rfl) (cmp_else .ge rfl)
theorem cmp_bl {o : Cop} {x y : D} {S : Sto} {d : D} {S' : Sto} (h : cmpD o x y S = .ok d S') : ∃ k, d = .bl k := by
  cases o with
  | eq =>
    have h : may (dEq S x y) (fun b => Res.ok (D.bl b) S) = .ok d S' := h
    cases e : dEq S x y with
    | none => rw [e] at h; cases h
    | some k => rw [e] at h; cases h; exact ⟨_, rfl⟩
  | ne =>
    have h : may (dEq S x y) (fun b => Res.ok (D.bl (!b)) S) = .ok d S' := h
    cases e : dEq S x y with
    | none => rw [e] at h; cases h
    | some k => rw [e] at h; cases h; exact ⟨_, rfl⟩
  | _ => cases x <;> first | (cases h; done) | (cases y <;> first | (cases h; done) | (cases h; exact ⟨_, rfl⟩))
theorem bind_ok {α β : Type} {r : Res α} {f : α → Sto → Res β} {b : β} {S' : Sto} (h : r.bind f = .ok b S') : ∃ a S1, r = .ok a S1 ∧ f a S1 = .ok b S' := by
  cases r with
  | ok a S1 => exact ⟨a, S1, rfl, h⟩
  | exc c fs S1 => cases h
  | bad => cases h
theorem may_ok {α β : Type} {o : Option α} {f : α → Res β} {b : β} {S' : Sto} (h : may o f = .ok b S') : ∃ a, o = some a ∧ f a = .ok b S' := by
  cases o with
  | none => cases h
  | some a => exact ⟨a, rfl, h⟩
theorem sc_cmp (o : Cop) (ha : SdE p a ca) (hb : SdE p b cb) : SdC p (.Compare a [copOp o] [b] pos) (.cmp o ca cb) := fun X C g => by
  have h1 : copOp o ≠ .In := by cases o <;> (intro z; cases z)
  have h2 : copOp o ≠ .NotIn := by cases o <;> (intro z; cases z)
  refine ⟨_, pe_cmpR (cop_op o X C g) (ha X C g) (hb X C g) (nomark b h1 h2), pt_cmpR (cop_op o X C g) (ha X C g) (hb X C g) (nomark b h1 h2), fun σ H Q h => tOp_imp (cop_os o) ?_⟩
  obtain ⟨μ, ρ, S, he, hs, h⟩ := h
  unfold evE at h
  exact ⟨μ, ρ, S, he, hs, h⟩
theorem b_cmp {o : Cop} : ∀ C ρ S d S', evE C (.cmp o ca cb) ρ S = .ok d S' → isB d = true := fun C ρ S d S' h => by
  unfold evE at h
  obtain ⟨x, S1, _, h⟩ := bind_ok h
  obtain ⟨y, S2, _, h⟩ := bind_ok h
  obtain ⟨k, rfl⟩ := cmp_bl h
  rfl
theorem sc_chn (o q : Cop) (hm : lastMarks [copOp o, copOp q] [b, c] = false) (ha : SdE p a ca) (hb : SdE p b cb) (hc : SdE p c cc) : SdC p (.Compare a [copOp o, copOp q] [b, c] pos) (.chn o q ca cb cc) := fun X C g => by
  refine ⟨_, pe_chain (cop_op o X C g) (cop_op q X C g) (ha X C g) (hb X C g) (hc X C g) hm, pt_chain (cop_op o X C g) (cop_op q X C g) (ha X C g) (hb X C g) (hc X C g) hm, fun σ H Q ⟨μ, ρ, S, he, hs, h⟩ => ?_⟩
  unfold evE at h
  refine ⟨μ, ρ, S, he, hs, h.bind.imp fun x S1 μ1 H1 _ e1 s1 h1 v rv => ?_⟩
  refine ⟨μ1, ρ, S1, he.mono e1, s1, h1.bind.imp fun y S2 μ2 H2 _ e2 s2 h2 u ru => ?_⟩
  refine cop_os o X.K μ2 H2 S2 x y v u _ s2 (rv.mono e2) ru (h2.bind.imp fun z S3 μ3 H3 ez e3 s3 h3 w rw_ => ?_)
  obtain ⟨k, rfl⟩ := cmp_bl ez
  refine ⟨k, rw_, ?_⟩
  cases k with
  | true =>
    rw [if_pos rfl]
    refine ⟨μ3, ρ, S3, he.mono (e1.trans (e2.trans e3)), s3, h3.bind.imp fun w' S4 μ4 H4 _ e4 s4 h4 t rt => ?_⟩
    exact cop_os q X.K μ4 H4 S4 y w' u t Q s4 ((ru.mono e3).mono e4) rt h4
  | false =>
    rw [if_neg Bool.false_ne_true]
    exact h3.at s3 _ rfl
theorem b_chn {o q : Cop} : ∀ C ρ S d S', evE C (.chn o q ca cb cc) ρ S = .ok d S' → isB d = true := fun C ρ S d S' h => by
  unfold evE at h
  obtain ⟨x, S1, _, h⟩ := bind_ok h
  obtain ⟨y, S2, _, h⟩ := bind_ok h
  obtain ⟨z, S3, ez, h⟩ := bind_ok h
  obtain ⟨k, rfl⟩ := cmp_bl ez
  cases k with
  | true =>
    obtain ⟨w, S4, _, h⟩ := bind_ok h
    obtain ⟨k, rfl⟩ := cmp_bl h
    rfl
  | false => cases h; rfl
theorem sc_isN {j pos'} (ha : SdE p a ca) : SdC p (.Compare a [.Is] [.Constant .none j pos'] pos) (.isN ca) := fun X C g => by
  refine ⟨_, pe_cmp (pc_isN (ha X C g)), pt_cmp (pc_isN (ha X C g)), fun σ H Q ⟨μ, ρ, S, he, hs, h⟩ => ?_⟩
  unfold evE at h
  refine ⟨μ, ρ, S, he, hs, h.bind.imp fun x S1 μ1 H1 _ e1 s1 h1 v rv => ?_⟩
  show Q (V.bl (decide (v = V.non))) H1
  rw [isN_rp rv]
  exact h1.at s1 _ rfl
theorem sc_notN {j pos'} (ha : SdE p a ca) : SdC p (.Compare a [.IsNot] [.Constant .none j pos'] pos) (.notN ca) := fun X C g => by
  refine ⟨_, pe_cmp (pc_notN (ha X C g)), pt_cmp (pc_notN (ha X C g)), fun σ H Q ⟨μ, ρ, S, he, hs, h⟩ => ?_⟩
  unfold evE at h
  refine ⟨μ, ρ, S, he, hs, h.bind.imp fun x S1 μ1 H1 _ e1 s1 h1 v rv => ?_⟩
  show Q (V.bl (!decide (v = V.non))) H1
  rw [isN_rp rv]
  exact h1.at s1 _ rfl
theorem b_isN : ∀ C ρ S d S', evE C (.isN ca) ρ S = .ok d S' → isB d = true := fun C ρ S d S' h => by
  unfold evE at h
  obtain ⟨x, S1, _, h⟩ := bind_ok h
  cases h; rfl
theorem b_notN : ∀ C ρ S d S', evE C (.notN ca) ρ S = .ok d S' → isB d = true := fun C ρ S d S' h => by
  unfold evE at h
  obtain ⟨x, S1, _, h⟩ := bind_ok h
  cases h; rfl
end
end PQ

/-! Subscripts, calls, built-ins. -/
namespace PQ
open PySem PySem.Spec PyProof.Rows L2
section
variable {p : Pl} {a b c e : Expr} {ca cb cc : CE} {cr : CR} {pos : Pos}
section
variable {K : Fg} {μ : List Addr} {H : Hp} {S : Sto} {x y d : D} {v u : V} {Q : VK} {ds : List D} {vs : List V} {r : RV}
theorem ls_rv (hs : StOk K μ H S) (rv : RvR K μ H r v) (h : lsOf S r = some ds) : ∃ a vs, v = .ref a ∧ SqL K H a vs ∧ RpA K μ H ds vs ∧ ds.length ≤ sizeLine := by
  cases r with
  | own es =>
    cases h
    obtain ⟨a, vs, h1, h2, _, h4, h5⟩ := rv
    exact ⟨a, vs, h1, .of h2, h4, h5⟩
  | val d =>
    cases d with
    | fix es =>
      cases h
      obtain ⟨a, vs, h1, h2, h3, h4⟩ := rv
      exact ⟨a, vs, h1, h2.sq, h3, h4⟩
    | ref i =>
      have h : (match S[i]? with
        | some (Ob.lst ds) => some ds
        | _ => none) = some ds := h
      cases ei : S[i]? with
      | none => rw [ei] at h; cases h
      | some o =>
        rw [ei] at h
        cases o with
        | dic ks => first | (cases h; done) | exact (show False from h).elim
        | lst es =>
          cases h
          obtain ⟨a, vs, h1, _, h2, h3, h4⟩ := rp_ref rv hs ei
          exact ⟨a, vs, h1, .of h2, h3, h4⟩
    | _ => cases h
theorem tr_rv (hs : StOk K μ H S) (rv : RvR K μ H r v) (h : trOf S r = some ds) : ∃ a vs, v = .ref a ∧ H a = some (.lst vs) ∧ RpA K μ H ds vs ∧ ds.length ≤ sizeLine := by
  cases r with
  | own es =>
    cases h
    obtain ⟨a, vs, h1, h2, _, h4, h5⟩ := rv
    exact ⟨a, vs, h1, h2, h4, h5⟩
  | val d =>
    cases d with
    | ref i =>
      have h : (match S[i]? with
        | some (Ob.lst ds) => some ds
        | _ => none) = some ds := h
      cases ei : S[i]? with
      | none => rw [ei] at h; cases h
      | some o =>
        rw [ei] at h
        cases o with
        | dic ks => first | (cases h; done) | exact (show False from h).elim
        | lst es =>
          cases h
          obtain ⟨a, vs, h1, _, h2, h3, h4⟩ := rp_ref rv hs ei
          exact ⟨a, vs, h1, h2, h3, h4⟩
    | _ => cases h
theorem sq_rv (hs : StOk K μ H S) (rv : RvR K μ H r v) (h : sqOf S r = some ds) : ∃ a vs, v = .ref a ∧ (SqL K H a vs ∨ (SqN K H a vs ∧ r = .val (.tup ds))) ∧ RpA K μ H ds vs ∧ ds.length ≤ sizeLine := by
  by_cases ht : ∃ es, r = .val (.tup es)
  · obtain ⟨es, rfl⟩ := ht
    cases h
    obtain ⟨a, vs, h1, h2, h3, h4⟩ := rv
    exact ⟨a, vs, h1, .inr ⟨h2, rfl⟩, h3, h4⟩
  · have h : lsOf S r = some ds := by
      cases r with
      | own es => exact h
      | val d => cases d <;> first | exact h | exact absurd ⟨_, rfl⟩ ht
    obtain ⟨a, vs, h1, h2, h3, h4⟩ := ls_rv hs rv h
    exact ⟨a, vs, h1, .inl h2, h3, h4⟩
theorem sq_or {a : Addr} {X : Prop} (h : SqL K H a vs ∨ (SqN K H a vs ∧ X)) : SqL K H a vs ∨ SqT K H a vs := h.elim .inl fun z => .inr z.1.sq
theorem rp_ints : ∀ {ds : List D} {vs : List V} {ns : List Int}, RpA K μ H ds vs → intsOf ds = some ns → vs = ns.map V.int
  | [], _, _, r, h => by cases h; exact r
  | d :: ds, _, ns, ⟨v, r, e, h1, h2⟩, h => by
    cases d with
    | int i =>
      have h : (intsOf ds).map (i :: ·) = some ns := h
      cases e1 : intsOf ds with
      | none => rw [e1] at h; cases h
      | some ms =>
        rw [e1] at h
        cases h
        rw [e, show v = V.int i from h1, rp_ints h2 e1]
        rfl
    | _ => cases h
theorem rp_bools : ∀ {ds : List D} {vs : List V} {ns : List Bool}, RpA K μ H ds vs → boolsOf ds = some ns → vs = ns.map V.bl
  | [], _, _, r, h => by cases h; exact r
  | d :: ds, _, ns, ⟨v, r, e, h1, h2⟩, h => by
    cases d with
    | bl i =>
      have h : (boolsOf ds).map (i :: ·) = some ns := h
      cases e1 : boolsOf ds with
      | none => rw [e1] at h; cases h
      | some ms =>
        rw [e1] at h
        cases h
        rw [e, show v = V.bl i from h1, rp_bools h2 e1]
        rfl
    | _ => cases h
theorem rp_at (r : RpA K μ H ds vs) {i : Int} (h : atI ds i = some d) : ∃ v, atI vs i = some v ∧ Rp K μ H d v := by
  unfold atI at h ⊢
  rw [← r.length]
  cases e : ixN ds.length i with
  | none => rw [e] at h; cases h
  | some j =>
    rw [e] at h
    exact r.get h
theorem cutD_ok (r : RpA K μ H ds vs) (lo hi : Option Int) : RpA K μ H (cutD ds lo hi) (cutV vs lo hi) := by
  unfold cutD cutV
  rw [r.length]
  exact (r.drop _).take _
theorem cutD_len (ds : List D) (lo hi : Option Int) : (cutD ds lo hi).length ≤ ds.length := by
  unfold cutD
  rw [List.length_take, List.length_drop]
  omega
end

/-! ### a[i], a[lo:hi] -/
/-- d[k] of a dict -/
def rIxD : R2 := fun x y H Q => ∃ a v, x = .ref a ∧ DGet H a y (some v) ∧ Q v H
theorem ix_dic {X : Cx} (hu : X.A.units + 1 < cLine) : IxR X rIxD := by
  intro value slice pins s σ H x y v u Q I rx ry h hs
  obtain ⟨a, w, rfl, g, q⟩ := h
  cases rx
  exact tail_any (dict_typeIs I g) PySem.F.slot_dict_getitem.lookup (d_getItem hu I g ry fun w' s' I' rw' => ⟨w, H, I', rw', q⟩) hs
def rIx2 (K : Fg) : R2 := fun x y H Q => rIxD x y H Q ∨ rIx K x y H Q
theorem dic_rv {K : Fg} {μ : List Addr} {H : Hp} {S : Sto} {v : V} {r : RV} {ks : List (Key × D)} (hs : StOk K μ H S) (rv : RvR K μ H r v) (h : dicOf S r = some ks) : ∃ a vs, v = .ref a ∧ H a = some (.dK vs) ∧ RpK K μ H ks vs ∧ ks.length ≤ sizeLine ∧ Nk ks := by
  cases r with
  | own es => cases h
  | val d =>
    cases d with
    | ref i =>
      have h : (match S[i]? with
        | some (Ob.dic ks) => some ks
        | _ => none) = some ks := h
      cases ei : S[i]? with
      | none => rw [ei] at h; cases h
      | some o =>
        rw [ei] at h
        cases o with
        | lst ds => cases h
        | dic ks' =>
          cases h
          obtain ⟨a, e1, ea⟩ := rv
          obtain ⟨vs, h1, h2, h3, h4⟩ := hs.dic ei ea
          exact ⟨a, vs, e1, h1, h2, h3, h4⟩
    | _ => cases h
theorem rp_refD {K : Fg} {μ : List Addr} {H : Hp} {S : Sto} {v : V} {i : Nat} (r : Rp K μ H (.ref i) v) (hs : StOk K μ H S) {ks : List (Key × D)} (e : S[i]? = some (.dic ks)) : ∃ a vs, v = .ref a ∧ μ[i]? = some a ∧ H a = some (.dK vs) ∧ RpK K μ H ks vs ∧ ks.length ≤ sizeLine ∧ Nk ks := by
  obtain ⟨a, rfl, ea⟩ := r
  obtain ⟨vs, h1, h2, h3, h4⟩ := hs.dic e ea
  exact ⟨a, vs, rfl, ea, h1, h2, h3, h4⟩
theorem os_idx : OpS idxD rIx2 := by
  intro K μ H S x y v u Q hs rx ry h
  cases x with
  | tup ds =>
    cases y with
    | int i =>
      obtain ⟨d, e, h⟩ := Po.may (show Po K μ H (may (atI ds i) fun d => Res.ok d S) _ from h)
      obtain ⟨a, vs, rfl, h1, h2, _⟩ := rx
      obtain ⟨w, e1, r1⟩ := rp_at h2 e
      exact .inr (.inr (.inl ⟨a, vs, i, w, rfl, ry, h1.sq, e1, h.at hs w r1⟩))
    | _ => exact (show False from h).elim
  | fix ds =>
    cases y with
    | int i =>
      obtain ⟨d, e, h⟩ := Po.may (show Po K μ H (may (atI ds i) fun d => Res.ok d S) _ from h)
      obtain ⟨a, vs, rfl, h1, h2, _⟩ := rx
      obtain ⟨w, e1, r1⟩ := rp_at h2 e
      exact .inr (.inl ⟨a, vs, i, w, rfl, ry, h1.sq, e1, h.at hs w r1⟩)
    | _ => exact (show False from h).elim
  | ref n =>
    cases y with
    | int i =>
      have h : Po K μ H (match S[n]? with
        | some (Ob.lst ds) => may (atI ds i) fun d => Res.ok d S
        | some (Ob.dic ks) => may (gD ks (.inl i)) fun d => Res.ok d S
        | none => Res.bad) _ := h
      cases ei : S[n]? with
      | none => rw [ei] at h; exact (show False from h).elim
      | some o =>
        rw [ei] at h
        cases o with
        | lst ds =>
          obtain ⟨d, e, h⟩ := Po.may h
          obtain ⟨a, vs, rfl, _, h1, h2, _⟩ := rp_ref rx hs ei
          obtain ⟨w, e1, r1⟩ := rp_at h2 e
          exact .inr (.inl ⟨a, vs, i, w, rfl, ry, .of h1, e1, h.at hs w r1⟩)
        | dic ks =>
          obtain ⟨d, e, h⟩ := Po.may h
          obtain ⟨a, vs, rfl, _, h1, h2, _⟩ := rp_refD rx hs ei
          obtain ⟨w, e1, r1⟩ := h2.getS e
          refine .inl ⟨a, w, rfl, ?_, h.at hs w r1⟩
          rw [show u = kV (.inl i) from ry, ← e1]
          exact DGet.k h1
    | str z =>
      have h : Po K μ H (match S[n]? with
        | some (Ob.dic ks) => may (gD ks (.inr z)) fun d => Res.ok d S
        | _ => Res.bad) _ := h
      cases ei : S[n]? with
      | none => rw [ei] at h; exact (show False from h).elim
      | some o =>
        rw [ei] at h
        cases o with
        | lst ds => exact (show False from h).elim
        | dic ks =>
          obtain ⟨d, e, h⟩ := Po.may h
          obtain ⟨a, vs, rfl, _, h1, h2, _⟩ := rp_refD rx hs ei
          obtain ⟨w, e1, r1⟩ := h2.getS e
          refine .inl ⟨a, w, rfl, ?_, h.at hs w r1⟩
          rw [show u = kV (.inr z) from ry, ← e1]
          exact DGet.k h1
    | _ => exact (show False from h).elim
  | str z =>
    cases y with
    | int i =>
      obtain ⟨hz, h⟩ := Po.ite (show Po K μ H (if z.length ≤ sizeLine then may (atI z.cps.toList i) fun c => Res.ok (D.str ⟨#[c]⟩) S else Res.bad) _ from h)
      obtain ⟨k, e, h⟩ := Po.may h
      exact .inr (.inr (.inr ⟨z, i, k, rx, ry, hz, e, h.at hs _ rfl⟩))
    | _ => exact (show False from h).elim
  | _ => exact (show False from h).elim
theorem sd_idx (hn : notSlice b = true) (ha : SdE p a ca) (hb : SdE p b cb) : SdE p (.Subscript a b pos) (.idx ca cb) := fun X C g =>
  (pe_ix (r := rIx2 X.K) ((ix_dic (by have := g.un; omega)).or ix_seq) (ha X C g) (hb X C g) (plain_ix hn)).pq fun σ H Q h => tOp_imp os_idx (by
    obtain ⟨μ, ρ, S, he, hs, h⟩ := h
    unfold evE at h
    exact ⟨μ, ρ, S, he, hs, h⟩)
theorem so_none : SdO p none .none := fun X C g => po_none.pq fun σ H Q ⟨μ, ρ, S, he, hs, h⟩ => by
  unfold evO at h
  exact h.at hs
theorem so_some (ha : SdE p a ca) : SdO p (some a) (.some ca) := fun X C g => (po_some (ha X C g)).pq fun σ H Q ⟨μ, ρ, S, he, hs, h⟩ => by
  unfold evO at h
  refine ⟨μ, ρ, S, he, hs, h.bind.imp fun x S1 μ1 H1 _ e1 s1 h1 v rv => ?_⟩
  cases x with
  | int i => exact ⟨i, rv, h1.at s1⟩
  | _ => exact (show False from h1).elim
def rSl3 (K : Fg) : V → Option Int → Option Int → Hp → VK → Prop := fun x lo hi H Q => rSlN K x lo hi H Q ∨ (rSlL K x lo hi H Q ∨ rSlS x lo hi H Q)
theorem os_slc {K : Fg} {μ : List Addr} {H : Hp} {S : Sto} {x : D} {v : V} {Q : VK} {lo hi : Option Int} (hs : StOk K μ H S) (rx : Rp K μ H x v) (h : Po K μ H (slcD x lo hi S) fun d _ μ' H' => ∀ v, Rp K μ' H' d v → Q v H') : rSl3 K v lo hi H Q := by
  cases x with
  | tup ds =>
    have h : Po K μ H (Res.ok (D.tup (cutD ds lo hi)) S) _ := h
    obtain ⟨a, vs, rfl, h1, h2, h3⟩ := rx
    have hz : (cutD ds lo hi).length ≤ sizeLine := Nat.le_trans (cutD_len _ _ _) h3
    refine .inl ⟨a, vs, rfl, h1.sq, fun hw => ?_, fun _ p o hp c1 c2 => ?_⟩
    · refine h.at hs _ ⟨a, vs, rfl, h1, ?_, hz⟩
      have e : cutV vs lo hi = vs := by
        unfold cutV
        rw [hw.1, hw.2, List.drop_zero, Nat.sub_zero, List.take_length]
      have := cutD_ok h2 lo hi
      rw [e] at this
      exact this
    · exact h μ _ (hs.fresh hp _) (hs.freshOk hp _) _ (rp_tup hs hz (cutD_ok h2 lo hi) hp c1 c2)
  | fix ds =>
    have h : Po K μ H (Res.ok (D.ref S.length) (S ++ [Ob.lst (cutD ds lo hi)])) _ := h
    obtain ⟨a, vs, rfl, h1, h2, h3⟩ := rx
    refine .inr (.inl ⟨a, vs, rfl, h1.sq, fun p hp => ?_⟩)
    obtain ⟨e1, s1, r1⟩ := take_new hs (Nat.le_trans (cutD_len _ _ _) h3) (cutD_ok h2 lo hi) hp
    exact h _ _ e1 s1 _ r1
  | ref n =>
    have h : Po K μ H (match S[n]? with
      | some (Ob.lst ds) => Res.ok (D.ref S.length) (S ++ [Ob.lst (cutD ds lo hi)])
      | _ => Res.bad) _ := h
    cases ei : S[n]? with
    | none => rw [ei] at h; exact (show False from h).elim
    | some o =>
      rw [ei] at h
      cases o with
      | dic ks => first | (cases h; done) | exact (show False from h).elim
      | lst ds =>
        obtain ⟨a, vs, rfl, _, h1, h2, h3⟩ := rp_ref rx hs ei
        refine .inr (.inl ⟨a, vs, rfl, .of h1, fun p hp => ?_⟩)
        obtain ⟨e1, s1, r1⟩ := take_new hs (Nat.le_trans (cutD_len _ _ _) h3) (cutD_ok h2 lo hi) hp
        exact h _ _ e1 s1 _ r1
  | str z =>
    obtain ⟨hz, h⟩ := Po.ite (show Po K μ H (if z.length ≤ sizeLine then Res.ok (D.str (cutS z lo hi)) S else Res.bad) _ from h)
    exact .inr (.inr ⟨z, rx, hz, h.at hs _ rfl⟩)
  | _ => exact (show False from h).elim
theorem sd_slc {lo hi : Option Expr} {cl ch : CO} {p2 : Pos} (ha : SdE p a ca) (hl : SdO p lo cl) (hh : SdO p hi ch) : SdE p (.Subscript a (.Slice lo hi none p2) pos) (.slc ca cl ch) := fun X C g =>
  (pe_slice (r := rSl3 X.K) (sl_tupN.or (sl_list.or sl_str)) (ha X C g) (hl X C g) (hh X C g)).pq fun σ H Q ⟨μ, ρ, S, he, hs, h⟩ => by
    unfold evE at h
    refine ⟨μ, ρ, S, he, hs, h.bind.imp fun x S1 μ1 H1 _ e1 s1 h1 v rv => ?_⟩
    refine ⟨μ1, ρ, S1, he.mono e1, s1, h1.bind.imp fun l S2 μ2 H2 _ e2 s2 h2 => ?_⟩
    refine ⟨μ2, ρ, S2, he.mono (e1.trans e2), s2, h2.bind.imp fun u S3 μ3 H3 _ e3 s3 h3 => ?_⟩
    exact os_slc s3 ((rv.mono e2).mono e3) h3
theorem sq_rev {k : Nat} {p1 p2 p3 : Pos} (ha : SdR p a cr) : SdQ p (.Subscript a (.Slice none none (some (.UnaryOp .USub (.Constant (.int 1) k p1) p2)) p3) pos) (.rev cr) := fun X C g =>
  (pe_revL (ha X C g)).pq fun σ H Q ⟨μ, ρ, S, he, hs, h⟩ => by
    unfold evQ at h
    refine ⟨μ, ρ, S, he, hs, h.bind.imp fun r S1 μ1 H1 _ e1 s1 h1 v rv => ?_⟩
    obtain ⟨ds, eds, h1⟩ := h1.may
    obtain ⟨a, vs, rfl, h2, h3, h4⟩ := ls_rv s1 rv eds
    refine ⟨a, vs, rfl, h2, fun q hq => ?_⟩
    refine h1 μ1 _ (s1.fresh hq _) (s1.freshOk hq _) q _ (e1.alive _ hq) upd_same (fun m => ?_) (h3.mono (s1.fresh hq _)).reverse (by rw [List.length_reverse]; exact h4)
    obtain ⟨w, ew, _⟩ := s1.mem m
    rw [hq] at ew; cases ew

/-! ### calls of defs -/
theorem sd_call {i : Nat} {x : Str} {es : List Expr} {c : CEs} {q : Pos} (hT : p.T[i]? = some x) (hg : p.sc.names.lookup x = some .globalImplicit) (hd : (x == ("__debug__" : Str)) = false) (hn : notStar e = true) (hns : es.all notStar = true) (ha : SdA p (e :: es) c) :
    SdE p (.Call (.Name x q) (e :: es) [] pos) (.call i c) := fun X C g => by
  obtain ⟨f, fd, ps, k, hm, F, hr, hk, hb⟩ := g.fn i x hT
  refine (pe_call (dvs := []) F hr (by show X.env.scope.names.lookup x = _; rw [g.sc]; exact hg) hm hk hb .nil pass0 (ha X C g) hd (star_cons hn es _) (star_any _ _ hns)).pq fun σ H Q ⟨μ, ρ, S, he, hs, h⟩ => ?_
  unfold evE at h
  refine ⟨μ, ρ, S, he, hs, h.bind.imp fun ds S1 μ1 H1 _ e1 s1 h1 vs rvs => ?_⟩
  exact ⟨μ1, ds, S1, s1, by rw [List.append_nil]; exact rvs, h1⟩
theorem sd_call0 {i : Nat} {x : Str} {q : Pos} (hT : p.T[i]? = some x) (hg : p.sc.names.lookup x = some .globalImplicit) (hd : (x == ("__debug__" : Str)) = false) :
    SdE p (.Call (.Name x q) [] [] pos) (.call i .nil) := fun X C g => by
  obtain ⟨f, fd, ps, k, hm, F, hr, hk, hb⟩ := g.fn i x hT
  refine (pe_call0 (dvs := []) F hr (by show X.env.scope.names.lookup x = _; rw [g.sc]; exact hg) hm hk hb .nil pass0 hd).pq fun σ H Q ⟨μ, ρ, S, he, hs, h⟩ => ?_
  unfold evE at h
  refine ⟨μ, [], S, hs, rfl, ?_⟩
  have h := h.bind
  unfold evEs at h
  exact h.at hs

/-! ### built-ins by name -/
/-- one argument, walked -/
theorem tCB_R {r : List V → Hp → VK → Prop} {K : Fg} {f : En → Sto → Res RV} {g : RV → Sto → Res D} {σ : Slots} {H : Hp} {Q : VK}
    (hg : ∀ (μ : List Addr) (H : Hp) (S : Sto) (x : RV) (v : V), StOk K μ H S → RvR K μ H x v → Po K μ H (g x S) (fun d _ μ' H' => ∀ v, Rp K μ' H' d v → Q v H') → r [v] H Q)
    (h : tE K (fun ρ S => (f ρ S).bind fun v S1 => g v S1) σ H Q) : tCB r (tCons (tR K f) tNil) σ H Q := by
  obtain ⟨μ, ρ, S, he, hs, h⟩ := h
  exact ⟨μ, ρ, S, he, hs, h.bind.imp fun x S1 μ1 H1 _ e1 s1 h1 v rv => hg μ1 H1 S1 x v s1 rv h1⟩
theorem tCB_E {r : List V → Hp → VK → Prop} {K : Fg} {f : En → Sto → Res D} {g : D → Sto → Res D} {σ : Slots} {H : Hp} {Q : VK}
    (hg : ∀ (μ : List Addr) (H : Hp) (S : Sto) (x : D) (v : V), StOk K μ H S → Rp K μ H x v → Po K μ H (g x S) (fun d _ μ' H' => ∀ v, Rp K μ' H' d v → Q v H') → r [v] H Q)
    (h : tE K (fun ρ S => (f ρ S).bind fun v S1 => g v S1) σ H Q) : tCB r (tCons (tE K f) tNil) σ H Q := by
  obtain ⟨μ, ρ, S, he, hs, h⟩ := h
  exact ⟨μ, ρ, S, he, hs, h.bind.imp fun x S1 μ1 H1 _ e1 s1 h1 v rv => hg μ1 H1 S1 x v s1 rv h1⟩
theorem tCB_EE {r : List V → Hp → VK → Prop} {K : Fg} {f f2 : En → Sto → Res D} {g : D → D → Sto → Res D} {σ : Slots} {H : Hp} {Q : VK}
    (hg : ∀ (μ : List Addr) (H : Hp) (S : Sto) (x y : D) (v u : V), StOk K μ H S → Rp K μ H x v → Rp K μ H y u → Po K μ H (g x y S) (fun d _ μ' H' => ∀ v, Rp K μ' H' d v → Q v H') → r [v, u] H Q)
    (h : tE K (fun ρ S => (f ρ S).bind fun v S1 => (f2 ρ S1).bind fun w S2 => g v w S2) σ H Q) : tCB r (tCons (tE K f) (tCons (tE K f2) tNil)) σ H Q := by
  obtain ⟨μ, ρ, S, he, hs, h⟩ := h
  refine ⟨μ, ρ, S, he, hs, h.bind.imp fun x S1 μ1 H1 _ e1 s1 h1 v rv => ?_⟩
  exact ⟨μ1, ρ, S1, he.mono e1, s1, h1.bind.imp fun y S2 μ2 H2 _ e2 s2 h2 u ru => hg μ2 H2 S2 x y v u s2 (rv.mono e2) ru h2⟩
section
variable {x : Str} {q : Pos}
theorem gl_of {X : Cx} {C : Orc} (g : Good X p C) (hg : p.sc.names.lookup x = some .globalImplicit) : Gl X x := by
  show X.env.scope.names.lookup x = _
  rw [g.sc]
  exact hg
/-- a module's name for a value -/
theorem sd_con {d : D} (h : (x, Gv.con d) ∈ p.G) (hg : p.sc.names.lookup x = some .globalImplicit) (hd : (x == ("__debug__" : Str)) = false) : SdE p (.Name x q) (.lit d) := fun X C g => by
  obtain ⟨v, u, h1, h2, h3⟩ := g.glb x _ h
  exact (pe_glob (gl_of g hg) h1 h2 hd).pq fun σ H Q ⟨μ, ρ, S, he, hs, h⟩ => by
    unfold evE at h
    exact h.at hs v (h3 _ _)
/-- f(r), f a built-in function -/
theorem sd_agg {f : Ag} {id : String} {r : Fg → List V → Hp → VK → Prop} (hc : ∀ X C, Good X p C → CallR X (.builtin id) (r X.K)) (hb : x ∈ p.B) (hg : p.sc.names.lookup x = some .globalImplicit) (hv : bootBuiltins x = some (.builtin id)) (hn : x ≠ "__name__") (hdb : (x == ("__debug__" : Str)) = false) (hst : notStar e = true)
    (ho : ∀ (K : Fg) (μ : List Addr) (H : Hp) (S : Sto) (x : RV) (v : V) (Q : VK), StOk K μ H S → RvR K μ H x v → Po K μ H (aggD f x S) (fun d _ μ' H' => ∀ v, Rp K μ' H' d v → Q v H') → r K [v] H Q) (ha : SdR p e cr) :
    SdE p (.Call (.Name x q) [e] [] pos) (.agg f cr) := fun X C g =>
  (pe_callB (hc X C g) (gl_of g hg) (g.blt x hb) hv (pa_cons (ha X C g) pa_nil (star_cons hst [] _)) hn hdb (star_cons hst [] _) rfl).pq fun σ H Q h => tCB_R (fun μ H S x v => ho X.K μ H S x v Q) (by
    obtain ⟨μ, ρ, S, he, hs, h⟩ := h
    unfold evE at h
    exact ⟨μ, ρ, S, he, hs, h⟩)
end
theorem greatest_spec : ∀ {ns : List Int} {m : Int}, greatest ns = some m → m ∈ ns ∧ ∀ y, y ∈ ns → y ≤ m
  | [x], m, h => by cases h; exact ⟨List.mem_singleton.mpr rfl, fun y hy => by rw [List.mem_singleton.mp hy]; exact Int.le_refl _⟩
  | x :: z :: r, m, h => by
    have h : (greatest (z :: r)).map (fun m => if x < m then m else x) = some m := h
    cases e : greatest (z :: r) with
    | none => rw [e] at h; cases h
    | some k =>
      rw [e] at h
      obtain ⟨h1, h2⟩ := greatest_spec e
      have h : (if x < k then k else x) = m := Option.some.inj h
      subst h
      split
      · exact ⟨List.mem_cons_of_mem _ h1, fun y hy => by
          rcases List.mem_cons.mp hy with e | hy
          · rw [e]; omega
          · exact h2 y hy⟩
      · exact ⟨List.mem_cons_self, fun y hy => by
          rcases List.mem_cons.mp hy with e | hy
          · rw [e]; exact Int.le_refl _
          · have := h2 y hy
            omega⟩
theorem least_spec : ∀ {ns : List Int} {m : Int}, least ns = some m → m ∈ ns ∧ ∀ y, y ∈ ns → m ≤ y
  | [x], m, h => by cases h; exact ⟨List.mem_singleton.mpr rfl, fun y hy => by rw [List.mem_singleton.mp hy]; exact Int.le_refl _⟩
  | x :: z :: r, m, h => by
    have h : (least (z :: r)).map (fun m => if m < x then m else x) = some m := h
    cases e : least (z :: r) with
    | none => rw [e] at h; cases h
    | some k =>
      rw [e] at h
      obtain ⟨h1, h2⟩ := least_spec e
      have h : (if k < x then k else x) = m := Option.some.inj h
      subst h
      split
      · exact ⟨List.mem_cons_of_mem _ h1, fun y hy => by
          rcases List.mem_cons.mp hy with e | hy
          · rw [e]; omega
          · exact h2 y hy⟩
      · exact ⟨List.mem_cons_self, fun y hy => by
          rcases List.mem_cons.mp hy with e | hy
          · rw [e]; exact Int.le_refl _
          · have := h2 y hy
            omega⟩
section
variable {q : Pos}
/-- len of a dict -/
def rLenD : List V → Hp → VK → Prop := fun xs H Q => ∃ a kvs, xs = [V.ref a] ∧ H a = some (.dK kvs) ∧ Q (.int kvs.length) H
theorem cr_lenD {X : Cx} : CallR X (.builtin "len") rLenD := by
  intro pins s σ H xs us Q I r q
  obtain ⟨a, kvs, rfl, hk, q⟩ := q
  rw [Vals.ref1 r]
  exact d_len I (.inl hk) fun t s' I' => ⟨.int kvs.length, H, I', ⟨t, rfl⟩, q⟩
theorem sd_len (hb : ("len" : Str) ∈ p.B) (hg : p.sc.names.lookup ("len" : Str) = some .globalImplicit) (hst : notStar e = true) (ha : SdR p e cr) : SdE p (.Call (.Name "len" q) [e] [] pos) (.agg .len cr) :=
  sd_agg (r := fun K xs H Q => (∃ x n, xs = [x] ∧ LenV K x H n ∧ Q (.int n) H) ∨ rLenD xs H Q) (fun X C g => call_len.or cr_lenD) hb hg boot_len (by decide) (by decide) hst (fun K μ H S x v Q hs rv h => by
    by_cases hx : ∃ z, x = .val (.str z)
    · obtain ⟨z, rfl⟩ := hx
      obtain ⟨hz, h⟩ := Po.ite (show Po K μ H (if z.length ≤ sizeLine then Res.ok (D.int z.length) S else Res.bad) _ from h)
      cases rv
      exact .inl ⟨_, z.length, rfl, ⟨hz, rfl⟩, h.at hs _ rfl⟩
    · have h : Po K μ H (may (lenOf S x) fun n => Res.ok (D.int n) S) (fun d _ μ' H' => ∀ v, Rp K μ' H' d v → Q v H') := by
        cases x with
        | own ds => exact h
        | val d => cases d <;> first | exact h | exact absurd ⟨_, rfl⟩ hx
      obtain ⟨n, e1, h⟩ := h.may
      unfold lenOf at e1
      cases e2 : sqOf S x with
      | some ds =>
        rw [e2] at e1
        cases e1
        obtain ⟨a, vs, rfl, h1, h2, _⟩ := sq_rv hs rv e2
        refine .inl ⟨_, ds.length, rfl, ?_, h.at hs _ rfl⟩
        rcases h1 with h1 | ⟨h1, _⟩
        · exact .inl ⟨vs, h1, h2.length⟩
        · exact .inr ⟨vs, h1.sq, h2.length⟩
      | none =>
        rw [e2] at e1
        cases e3 : dicOf S x with
        | none => rw [e3] at e1; cases e1
        | some ks =>
          rw [e3] at e1
          cases e1
          obtain ⟨a, vs, rfl, h1, h2, h3, h4⟩ := dic_rv hs rv e3
          refine .inr ⟨a, vs, rfl, h1, ?_⟩
          rw [← h2.length]
          exact h.at hs _ rfl) ha
theorem sd_sum (hb : ("sum" : Str) ∈ p.B) (hg : p.sc.names.lookup ("sum" : Str) = some .globalImplicit) (hst : notStar e = true) (ha : SdR p e cr) : SdE p (.Call (.Name "sum" q) [e] [] pos) (.agg .sum cr) :=
  sd_agg (r := rSum) (fun X C g => cr_sum g.calm) hb hg (by decide +kernel) (by decide) (by decide) hst (fun K μ H S x v Q hs rv h => by
    obtain ⟨ds, e1, h⟩ := Po.may (show Po K μ H (may (lsOf S x) fun ds => may (intsOf ds) fun ns => Res.ok (D.int ns.sum) S) _ from h)
    obtain ⟨ns, e2, h⟩ := h.may
    obtain ⟨a, vs, rfl, h1, h2, _⟩ := ls_rv hs rv e1
    exact ⟨a, ns, rfl, by rw [← rp_ints h2 e2]; exact h1, h.at hs _ rfl⟩) ha
theorem sd_max (hb : ("max" : Str) ∈ p.B) (hg : p.sc.names.lookup ("max" : Str) = some .globalImplicit) (hst : notStar e = true) (ha : SdR p e cr) : SdE p (.Call (.Name "max" q) [e] [] pos) (.agg .max cr) :=
  sd_agg (r := rMax) (fun X C g => cr_max g.calm) hb hg (by decide +kernel) (by decide) (by decide) hst (fun K μ H S x v Q hs rv h => by
    obtain ⟨ds, e1, h⟩ := Po.may (show Po K μ H (may (lsOf S x) fun ds => may (intsOf ds) fun ns => may (greatest ns) fun m => Res.ok (D.int m) S) _ from h)
    obtain ⟨ns, e2, h⟩ := h.may
    obtain ⟨m, e3, h⟩ := h.may
    obtain ⟨a, vs, rfl, h1, h2, _⟩ := ls_rv hs rv e1
    obtain ⟨g1, g2⟩ := greatest_spec e3
    refine ⟨a, ns, rfl, by rw [← rp_ints h2 e2]; exact h1, List.length_pos_of_mem g1, fun k k1 k2 => ?_⟩
    have : k = m := Int.le_antisymm (g2 k k1) (k2 m g1)
    rw [this]
    exact h.at hs _ rfl) ha
theorem sd_min (hb : ("min" : Str) ∈ p.B) (hg : p.sc.names.lookup ("min" : Str) = some .globalImplicit) (hst : notStar e = true) (ha : SdR p e cr) : SdE p (.Call (.Name "min" q) [e] [] pos) (.agg .min cr) :=
  sd_agg (r := rMin) (fun X C g => cr_min g.calm) hb hg (by decide +kernel) (by decide) (by decide) hst (fun K μ H S x v Q hs rv h => by
    obtain ⟨ds, e1, h⟩ := Po.may (show Po K μ H (may (lsOf S x) fun ds => may (intsOf ds) fun ns => may (least ns) fun m => Res.ok (D.int m) S) _ from h)
    obtain ⟨ns, e2, h⟩ := h.may
    obtain ⟨m, e3, h⟩ := h.may
    obtain ⟨a, vs, rfl, h1, h2, _⟩ := ls_rv hs rv e1
    obtain ⟨g1, g2⟩ := least_spec e3
    refine ⟨a, ns, rfl, by rw [← rp_ints h2 e2]; exact h1, List.length_pos_of_mem g1, fun k k1 k2 => ?_⟩
    have : k = m := Int.le_antisymm (k2 m g1) (g2 k k1)
    rw [this]
    exact h.at hs _ rfl) ha
theorem sd_all (hb : ("all" : Str) ∈ p.B) (hg : p.sc.names.lookup ("all" : Str) = some .globalImplicit) (hst : notStar e = true) (ha : SdR p e cr) : SdE p (.Call (.Name "all" q) [e] [] pos) (.agg .all cr) :=
  sd_agg (r := rAll) (fun X C g => cr_all g.calm) hb hg (by decide +kernel) (by decide) (by decide) hst (fun K μ H S x v Q hs rv h => by
    obtain ⟨ds, e1, h⟩ := Po.may (show Po K μ H (may (lsOf S x) fun ds => may (boolsOf ds) fun bs => Res.ok (D.bl (bs.all id)) S) _ from h)
    obtain ⟨ns, e2, h⟩ := h.may
    obtain ⟨a, vs, rfl, h1, h2, _⟩ := ls_rv hs rv e1
    exact ⟨a, ns, rfl, by rw [← rp_bools h2 e2]; exact h1, h.at hs _ rfl⟩) ha
theorem sd_any (hb : ("any" : Str) ∈ p.B) (hg : p.sc.names.lookup ("any" : Str) = some .globalImplicit) (hst : notStar e = true) (ha : SdR p e cr) : SdE p (.Call (.Name "any" q) [e] [] pos) (.agg .any cr) :=
  sd_agg (r := rAny) (fun X C g => cr_any g.calm) hb hg (by decide +kernel) (by decide) (by decide) hst (fun K μ H S x v Q hs rv h => by
    obtain ⟨ds, e1, h⟩ := Po.may (show Po K μ H (may (lsOf S x) fun ds => may (boolsOf ds) fun bs => Res.ok (D.bl (bs.any id)) S) _ from h)
    obtain ⟨ns, e2, h⟩ := h.may
    obtain ⟨a, vs, rfl, h1, h2, _⟩ := ls_rv hs rv e1
    exact ⟨a, ns, rfl, by rw [← rp_bools h2 e2]; exact h1, h.at hs _ rfl⟩) ha
/-- tuple(r), list(r) -/
theorem sd_tuple (hb : ("tuple" : Str) ∈ p.B) (hg : p.sc.names.lookup ("tuple" : Str) = some .globalImplicit) (hst : notStar e = true) (ha : SdR p e cr) : SdE p (.Call (.Name "tuple" q) [e] [] pos) (.agg .tuple cr) := fun X C g =>
  (pe_callTy call_tupleN (gl_of g hg) (g.blt _ hb) (by decide +kernel) (pa_cons (ha X C g) pa_nil (star_cons hst [] _)) (by decide) (by decide) (star_cons hst [] _) rfl).pq fun σ H Q h => tCB_R (g := aggD .tuple) (fun μ H S x v hs rv h => by
    obtain ⟨ds, e1, h⟩ := Po.may (show Po X.K μ H (may (sqOf S x) fun ds => Res.ok (D.tup ds) S) _ from h)
    obtain ⟨a, vs, rfl, h1, h2, h3⟩ := sq_rv hs rv e1
    refine ⟨a, vs, rfl, ?_⟩
    rcases h1 with h1 | ⟨h1, e2⟩
    · exact .inl ⟨h1, fun l o hl c1 c2 => h μ _ (hs.fresh hl _) (hs.freshOk hl _) _ (rp_tup hs h3 h2 hl c1 c2)⟩
    · exact .inr ⟨h1.sq, h.at hs _ ⟨a, vs, rfl, h1, h2, h3⟩⟩) (by
    obtain ⟨μ, ρ, S, he, hs, h⟩ := h
    unfold evE at h
    exact ⟨μ, ρ, S, he, hs, h⟩)
/-- list(x): of a list, a tuple, a text -/
def rListS (K : Fg) (xs : List V) (H : Hp) (Q : V → Hp → Prop) : Prop := (∃ p ys, xs = [.ref p] ∧ (SqL K H p ys ∨ SqT K H p ys) ∧ ∀ l, H l = none → Q (.ref l) (upd H l (.lst ys))) ∨
  (∃ z : Str, xs = [.str z] ∧ z.length ≤ sizeLine ∧ ∀ l, H l = none → Q (.ref l) (upd H l (.lst (z.cps.toList.map fun c => V.str ⟨#[c]⟩))))
theorem call_list_ofS {X : Cx} (hc : X.calm = true) : CallR X (.type "list") (rListS X.K) := by
  intro pins s σ H xs us Q I r h
  rcases h with h | h
  · exact call_list_of pins s σ H xs us Q I r h
  · obtain ⟨z, rfl, hz, q⟩ := h
    obtain ⟨u, rfl, rx⟩ := vals1 r
    obtain ⟨t, rfl⟩ := rx
    refine PySem.call_list_str (I.ok.hd hc) z t (fun h' tk acc c' hk e hi => ?_) hz
    have zl : z.cps.toList.length = z.cps.size := Array.length_toList
    refine ⟨.ref s.heap.objs.size, upd H s.heap.objs.size (.lst (z.cps.toList.map fun c => V.str ⟨#[c]⟩)), I.laid hk (Nat.le_refl _) ⟨by rw [List.length_map, zl]; exact hz, acc.toList, c', ?_, by rw [Array.toArray_toList]; exact e⟩, rfl, q _ (I.hok.fresh (Nat.le_refl _))⟩
    refine vals_of_idx _ _ (by rw [List.length_map, zl, Array.length_toList]; exact hi.1) fun j u hj => ?_
    obtain ⟨c, t', hc, rfl⟩ := hi.2 j u (by rw [← Array.getElem?_toList]; exact hj)
    exact ⟨.str ⟨#[c]⟩, by simp [hc], ⟨_, rfl⟩⟩
theorem letters_rp {K : Fg} {μ : List Addr} {H : Hp} (l : List Nat) : RpA K μ H (l.map fun c => D.str ⟨#[c]⟩) (l.map fun c => V.str ⟨#[c]⟩) := by
  induction l with
  | nil => exact rfl
  | cons k l ih => exact .cons rfl ih
theorem sq_list (hb : ("list" : Str) ∈ p.B) (hg : p.sc.names.lookup ("list" : Str) = some .globalImplicit) (hst : notStar e = true) (ha : SdR p e cr) : SdQ p (.Call (.Name "list" q) [e] [] pos) (.list cr) := fun X C g =>
  (pe_callTy (call_list_ofS g.calm) (gl_of g hg) (g.blt _ hb) (by decide +kernel) (pa_cons (ha X C g) pa_nil (star_cons hst [] _)) (by decide) (by decide) (star_cons hst [] _) rfl).pq fun σ H Q ⟨μ, ρ, S, he, hs, h⟩ => by
    unfold evQ at h
    refine ⟨μ, ρ, S, he, hs, h.bind.imp fun x S1 μ1 H1 _ e1 s1 h1 v rv => ?_⟩
    obtain ⟨ds, eds, h1⟩ := h1.may
    by_cases ht : ∃ z, x = .val (.str z)
    · obtain ⟨z, rfl⟩ := ht
      have rv' : v = .str z := rv
      subst rv'
      have eds' : (if z.length ≤ sizeLine then some (lettersD z) else none) = some ds := eds
      by_cases hz : z.length ≤ sizeLine
      · rw [if_pos hz, Option.some.injEq] at eds'
        subst eds'
        refine .inr ⟨z, rfl, hz, fun l hl => ?_⟩
        have r0 : RpA X.K μ1 H1 (lettersD z) (z.cps.toList.map fun c => V.str ⟨#[c]⟩) := letters_rp _
        refine h1 μ1 _ (s1.fresh hl _) (s1.freshOk hl _) l _ (e1.alive _ hl) upd_same (fun m => ?_) (r0.mono (s1.fresh hl _)) (by unfold lettersD; rw [List.length_map, Array.length_toList]; exact hz)
        obtain ⟨w, ew, _⟩ := s1.mem m
        rw [hl] at ew; cases ew
      · rw [if_neg hz] at eds'
        cases eds'
    · have eds' : sqOf S1 x = some ds := by
        cases x with
        | own es => exact eds
        | val d => cases d <;> first | exact eds | exact absurd ⟨_, rfl⟩ ht
      obtain ⟨a, vs, rfl, h2, h3, h4⟩ := sq_rv s1 rv eds'
      refine .inl ⟨a, vs, rfl, sq_or h2, fun l hl => ?_⟩
      refine h1 μ1 _ (s1.fresh hl _) (s1.freshOk hl _) l _ (e1.alive _ hl) upd_same (fun m => ?_) (h3.mono (s1.fresh hl _)) h4
      obtain ⟨w, ew, _⟩ := s1.mem m
      rw [hl] at ew; cases ew
end
end
end PQ

/-! More built-ins, methods of lists, isinstance. -/
namespace PQ
open PySem PySem.Spec PyProof.Rows L2
section
variable {p : Pl} {a b c e : Expr} {ca cb cc : CE} {cr : CR} {pos q : Pos}
/-- T(e), T a built-in type; f(e), f(e, e') built-in functions -/
theorem sd_ty1 {f : F1} {x : Str} {T : String} {r : Fg → List V → Hp → VK → Prop} (hc : ∀ X C, Good X p C → CallR X (.type T) (r X.K)) (hb : x ∈ p.B) (hg : p.sc.names.lookup x = some .globalImplicit) (hv : bootBuiltins x = some (.type T)) (hn : x ≠ "__name__") (hdb : (x == ("__debug__" : Str)) = false) (hst : notStar e = true)
    (ho : ∀ (K : Fg) (μ : List Addr) (H : Hp) (S : Sto) (x : D) (v : V) (Q : VK), StOk K μ H S → Rp K μ H x v → Po K μ H (fn1D f x S) (fun d _ μ' H' => ∀ v, Rp K μ' H' d v → Q v H') → r K [v] H Q) (ha : SdE p e ca) :
    SdE p (.Call (.Name x q) [e] [] pos) (.fn1 f ca) := fun X C g =>
  (pe_callTy (hc X C g) (gl_of g hg) (g.blt x hb) hv (pa_cons (ha X C g) pa_nil (star_cons hst [] _)) hn hdb (star_cons hst [] _) rfl).pq fun σ H Q h => tCB_E (fun μ H S x v => ho X.K μ H S x v Q) (by
    obtain ⟨μ, ρ, S, he, hs, h⟩ := h
    unfold evE at h
    exact ⟨μ, ρ, S, he, hs, h⟩)
theorem sd_fun1 {f : F1} {x : Str} {T : String} {r : Fg → List V → Hp → VK → Prop} (hc : ∀ X C, Good X p C → CallR X (.builtin T) (r X.K)) (hb : x ∈ p.B) (hg : p.sc.names.lookup x = some .globalImplicit) (hv : bootBuiltins x = some (.builtin T)) (hn : x ≠ "__name__") (hdb : (x == ("__debug__" : Str)) = false) (hst : notStar e = true)
    (ho : ∀ (K : Fg) (μ : List Addr) (H : Hp) (S : Sto) (x : D) (v : V) (Q : VK), StOk K μ H S → Rp K μ H x v → Po K μ H (fn1D f x S) (fun d _ μ' H' => ∀ v, Rp K μ' H' d v → Q v H') → r K [v] H Q) (ha : SdE p e ca) :
    SdE p (.Call (.Name x q) [e] [] pos) (.fn1 f ca) := fun X C g =>
  (pe_callB (hc X C g) (gl_of g hg) (g.blt x hb) hv (pa_cons (ha X C g) pa_nil (star_cons hst [] _)) hn hdb (star_cons hst [] _) rfl).pq fun σ H Q h => tCB_E (fun μ H S x v => ho X.K μ H S x v Q) (by
    obtain ⟨μ, ρ, S, he, hs, h⟩ := h
    unfold evE at h
    exact ⟨μ, ρ, S, he, hs, h⟩)
theorem sd_fun2 {f : F2} {x : Str} {T : String} {r : Fg → List V → Hp → VK → Prop} (hc : ∀ X C, Good X p C → CallR X (.builtin T) (r X.K)) (hb : x ∈ p.B) (hg : p.sc.names.lookup x = some .globalImplicit) (hv : bootBuiltins x = some (.builtin T)) (hn : x ≠ "__name__") (hdb : (x == ("__debug__" : Str)) = false) (hst : notStar a = true) (hst2 : notStar b = true)
    (ho : ∀ (K : Fg) (μ : List Addr) (H : Hp) (S : Sto) (x y : D) (v u : V) (Q : VK), StOk K μ H S → Rp K μ H x v → Rp K μ H y u → Po K μ H (fn2D f x y S) (fun d _ μ' H' => ∀ v, Rp K μ' H' d v → Q v H') → r K [v, u] H Q) (ha : SdE p a ca) (hb' : SdE p b cb) :
    SdE p (.Call (.Name x q) [a, b] [] pos) (.fn2 f ca cb) := fun X C g =>
  (pe_callB (hc X C g) (gl_of g hg) (g.blt x hb) hv (pa_cons (ha X C g) (pa_cons (hb' X C g) pa_nil (star_cons hst2 [] _)) (star_cons hst [b] _)) hn hdb (star_cons hst [b] _) (star_any _ _ (by rw [List.all_cons, hst2]; rfl))).pq fun σ H Q h => tCB_EE (fun μ H S x y v u => ho X.K μ H S x y v u Q) (by
    obtain ⟨μ, ρ, S, he, hs, h⟩ := h
    unfold evE at h
    exact ⟨μ, ρ, S, he, hs, h⟩)
theorem sd_intT (hb : ("int" : Str) ∈ p.B) (hg : p.sc.names.lookup ("int" : Str) = some .globalImplicit) (hst : notStar e = true) (ha : SdE p e ca) : SdE p (.Call (.Name "int" q) [e] [] pos) (.fn1 .int ca) :=
  sd_ty1 (r := fun _ xs H Q => (∃ i, xs = [.int i] ∧ Q (.int i) H) ∨ ∃ k, xs = [.bl k] ∧ Q (.int (if k then 1 else 0)) H) (fun X C g => call_int1) hb hg (by decide +kernel) (by decide) (by decide) hst (fun K μ H S x v Q hs rv h => by
    cases x with
    | int i => cases rv; exact .inl ⟨i, rfl, Po.at (show Po K μ H (Res.ok (D.int i) S) _ from h) hs _ rfl⟩
    | bl k => cases rv; exact .inr ⟨k, rfl, Po.at (show Po K μ H (Res.ok (D.int (if k then 1 else 0)) S) _ from h) hs _ rfl⟩
    | _ => exact (show False from h).elim) ha
theorem sd_strT (hb : ("str" : Str) ∈ p.B) (hg : p.sc.names.lookup ("str" : Str) = some .globalImplicit) (hst : notStar e = true) (ha : SdE p e ca) : SdE p (.Call (.Name "str" q) [e] [] pos) (.fn1 .str ca) :=
  sd_ty1 (r := fun _ xs H Q => ∃ i, xs = [.int i] ∧ i.natAbs.log2 < 1920 ∧ Q (.str (toString i)) H) (fun X C g => call_str_int) hb hg (by decide +kernel) (by decide) (by decide) hst (fun K μ H S x v Q hs rv h => by
    cases x with
    | int i =>
      cases rv
      obtain ⟨z, h⟩ := Po.ite (show Po K μ H (if i.natAbs.log2 < 1920 then Res.ok (D.str (toString i)) S else Res.bad) _ from h)
      exact ⟨i, rfl, z, Po.at h hs _ rfl⟩
    | _ => exact (show False from h).elim) ha
theorem sd_abs (hb : ("abs" : Str) ∈ p.B) (hg : p.sc.names.lookup ("abs" : Str) = some .globalImplicit) (hst : notStar e = true) (ha : SdE p e ca) : SdE p (.Call (.Name "abs" q) [e] [] pos) (.fn1 .abs ca) :=
  sd_fun1 (r := fun _ xs H Q => ∃ i, xs = [.int i] ∧ Q (.int (if i < 0 then -i else i)) H) (fun X C g => call_abs) hb hg (by decide +kernel) (by decide) (by decide) hst (fun K μ H S x v Q hs rv h => by
    cases x with
    | int i => cases rv; exact ⟨i, rfl, Po.at (show Po K μ H (Res.ok (D.int (if i < 0 then -i else i)) S) _ from h) hs _ rfl⟩
    | _ => exact (show False from h).elim) ha
theorem sd_min2 (hb : ("min" : Str) ∈ p.B) (hg : p.sc.names.lookup ("min" : Str) = some .globalImplicit) (hst : notStar a = true) (hst2 : notStar b = true) (ha : SdE p a ca) (hb' : SdE p b cb) : SdE p (.Call (.Name "min" q) [a, b] [] pos) (.fn2 .min ca cb) :=
  sd_fun2 (r := fun _ xs H Q => ∃ i j, xs = [.int i, .int j] ∧ Q (.int (if j < i then j else i)) H) (fun X C g => call_min2 g.calm) hb hg (by decide +kernel) (by decide) (by decide) hst hst2 (fun K μ H S x y v u Q hs rv ru h => by
    cases x <;> cases y <;> first | exact (show False from h).elim | (cases rv; cases ru; exact ⟨_, _, rfl, Po.at h hs _ rfl⟩)) ha hb'
theorem sd_max2 (hb : ("max" : Str) ∈ p.B) (hg : p.sc.names.lookup ("max" : Str) = some .globalImplicit) (hst : notStar a = true) (hst2 : notStar b = true) (ha : SdE p a ca) (hb' : SdE p b cb) : SdE p (.Call (.Name "max" q) [a, b] [] pos) (.fn2 .max ca cb) :=
  sd_fun2 (r := fun _ xs H Q => ∃ i j, xs = [.int i, .int j] ∧ Q (.int (if j > i then j else i)) H) (fun X C g => call_max2 g.calm) hb hg (by decide +kernel) (by decide) (by decide) hst hst2 (fun K μ H S x y v u Q hs rv ru h => by
    cases x <;> cases y <;> first | exact (show False from h).elim | (cases rv; cases ru; exact ⟨_, _, rfl, Po.at h hs _ rfl⟩)) ha hb'

theorem sd_gcd {x : Str} (hm : (x, Gv.fn "math.gcd") ∈ p.G) (hg : p.sc.names.lookup x = some .globalImplicit) (hdb : (x == ("__debug__" : Str)) = false) (hst : notStar a = true) (hst2 : notStar b = true) (ha : SdE p a ca) (hb' : SdE p b cb) : SdE p (.Call (.Name x q) [a, b] [] pos) (.fn2 .gcd ca cb) := fun X C g =>
  (pe_callBfun cr_gcd (gl_of g hg) (g.glb x _ hm) (pa_cons (ha X C g) (pa_cons (hb' X C g) pa_nil (star_cons hst2 [] _)) (star_cons hst [b] _)) hdb (star_cons hst [b] _) (star_any _ _ (by rw [List.all_cons, hst2]; rfl))).pq fun σ H Q h => tCB_EE (g := fn2D .gcd) (fun μ H S x y v u hs rv ru h => by
    cases x <;> cases y <;> first | exact (show False from h).elim | (cases rv; cases ru; exact ⟨_, _, rfl, Po.at h hs _ rfl⟩)) (by
    obtain ⟨μ, ρ, S, he, hs, h⟩ := h
    unfold evE at h
    exact ⟨μ, ρ, S, he, hs, h⟩)

/-! ### isinstance -/
def tyN : Ty → String
  | .int => "int" | .bool => "bool" | .str => "str" | .tuple => "tuple"
theorem sqt_ty {K : Fg} {H : Hp} {a : Addr} {xs : List V} (h : SqT K H a xs) : TyX K H (.ref a) (.type "tuple") := by
  rcases h with (h | ⟨o, h⟩) | ⟨o, its, n, hk, hc, _⟩
  · exact .base (.tup h)
  · exact .fTuple h
  · exact .kTuple hk hc
theorem fix_ty {K : Fg} {H : Hp} {a : Addr} {xs : List V} (h : Fix K H a xs) : TyX K H (.ref a) (.type "list") := by
  rcases h with ⟨o, h⟩ | ⟨o, its, n, hk, hc, _⟩
  · exact .base (.frz h)
  · exact .kList hk hc
theorem ty_rp {K : Fg} {μ : List Addr} {H : Hp} {S : Sto} {x : D} {v : V} {k : Bool} {t : Ty} (hs : StOk K μ H S) (r : Rp K μ H x v) (h : tyB t S x = some k) : ∃ n, TyX K H v (.type n) ∧ kitB n (tyN t) = some k := by
  cases x with
  | non => cases r; cases h; exact ⟨"NoneType", .base .non, by cases t <;> decide +kernel⟩
  | bl b => cases r; cases h; exact ⟨"bool", .base (.bl b), by cases t <;> decide +kernel⟩
  | int i => cases r; cases h; exact ⟨"int", .base (.int i), by cases t <;> decide +kernel⟩
  | str z => cases r; cases h; exact ⟨"str", .base (.str z), by cases t <;> decide +kernel⟩
  | tup ds =>
    obtain ⟨a, vs, rfl, h1, _⟩ := r
    cases h
    exact ⟨"tuple", sqt_ty h1.sq, by cases t <;> decide +kernel⟩
  | fix ds =>
    obtain ⟨a, vs, rfl, h1, _⟩ := r
    cases h
    exact ⟨"list", fix_ty h1, by cases t <;> decide +kernel⟩
  | ref i =>
    have h : (match S[i]? with
      | some (Ob.lst _) => some false
      | _ => none) = some k := h
    cases ei : S[i]? with
    | none => rw [ei] at h; cases h
    | some o =>
      rw [ei] at h
      cases o with
      | dic ks => first | (cases h; done) | exact (show False from h).elim
      | lst ds =>
        obtain ⟨a, vs, rfl, _, h1, _⟩ := rp_ref r hs ei
        cases h
        exact ⟨"list", .base (.lst h1), by cases t <;> decide +kernel⟩
theorem sd_isi {t : Ty} {x : Str} {q2 : Pos} (hb : ("isinstance" : Str) ∈ p.B) (hg : p.sc.names.lookup ("isinstance" : Str) = some .globalImplicit) (hb2 : x ∈ p.B) (hg2 : p.sc.names.lookup x = some .globalImplicit) (hv : bootBuiltins x = some (.type (tyN t))) (hn : x ≠ "__name__") (hdb : (x == ("__debug__" : Str)) = false) (hst : notStar a = true) (ha : SdE p a ca) :
    SdE p (.Call (.Name "isinstance" q) [a, .Name x q2] [] pos) (.isi ca t) := fun X C g =>
  (pe_callB call_isi (gl_of g hg) (g.blt _ hb) (by decide +kernel) (pa_cons (ha X C g) (pa_cons (pe_bltn (v := .ty (tyN t)) (gl_of g hg2) (g.blt _ hb2) hv rfl hn hdb) pa_nil rfl) (star_cons hst _ _)) (by decide) (by decide) (star_cons hst _ _) rfl).pq fun σ H Q ⟨μ, ρ, S, he, hs, h⟩ => by
    unfold evE at h
    refine ⟨μ, ρ, S, he, hs, h.bind.imp fun y S1 μ1 H1 _ e1 s1 h1 v rv => ?_⟩
    obtain ⟨k, ek, h1⟩ := h1.may
    obtain ⟨n, ty, hk⟩ := ty_rp s1 rv ek
    exact ⟨v, .ty (tyN t), .type n, .type (tyN t), k, rfl, .ty _, ty, kit_ty hk, h1.at s1 _ rfl⟩

/-! ### methods of lists -/
section
variable {K : Fg} {μ : List Addr} {H : Hp} {S : Sto} {x : D} {v : V}
/-- a value that is a list of the store -/
theorem Po.withL {α : Type} {f : Nat → List D → Res α} {P : α → Sto → List Addr → Hp → Prop} (hs : StOk K μ H S) (r : Rp K μ H x v) (h : Po K μ H (withL S x f) P) : ∃ i ds a vs, x = .ref i ∧ v = .ref a ∧ S[i]? = some (.lst ds) ∧ μ[i]? = some a ∧ H a = some (.lst vs) ∧ RpA K μ H ds vs ∧ ds.length ≤ sizeLine ∧ Po K μ H (f i ds) P := by
  cases x with
  | ref i =>
    have h : Po K μ H (match S[i]? with
      | some (Ob.lst ds) => f i ds
      | _ => Res.bad) P := h
    cases ei : S[i]? with
    | none => rw [ei] at h; exact h.elim
    | some o =>
      rw [ei] at h
      cases o with
      | dic ks => first | (cases h; done) | exact (show False from h).elim
      | lst ds =>
        obtain ⟨a, vs, e1, e2, h1, h2, h3⟩ := rp_ref r hs ei
        exact ⟨i, ds, a, vs, rfl, e1, ei, e2, h1, h2, h3, h⟩
  | _ => exact (show False from h).elim
theorem ty_lst {a : Addr} {vs : List V} (h : H a = some (.lst vs)) : tyV K "list" (.ref a) H := .inl ⟨rfl, _, .of h⟩
end
theorem few1 (cpos : Pos) (env : Env) (hst : notStar e = true) : ((backTo cpos (starEach [e] env)).all (fun x => !x.1) && (backToKw cpos (keywordEach [] env)).all (fun x => x.1.isSome)
      && decide ([e].length + ([] : List Keyword).length + (if ([] : List Keyword).isEmpty then 0 else 1) < 30)) = true := by
  rw [star_cons hst]
  rfl
/-- a method with one argument, a method without -/
theorem sd_bm1 {nm : Str} {id : String} {r : V → List V → Hp → VK → Prop} {ap : Pos} {f : D → D → Sto → Res D} {cx : CE} (slot : Slot "list" nm id) (hty : typeOf (.builtin id) = pure (.type "method_descriptor")) (hm : ∀ X : Cx, MtR X id r)
    (ho : ∀ (K : Fg) (μ : List Addr) (H : Hp) (S : Sto) (x y : D) (v u : V) (Q : VK), StOk K μ H S → Rp K μ H x v → Rp K μ H y u → Po K μ H (f x y S) (fun d _ μ' H' => ∀ v, Rp K μ' H' d v → Q v H') → r v [u] H Q)
    (hev : ∀ C ρ S, evE C cx ρ S = (evE C ca ρ S).bind fun o S1 => withL S1 o fun _ _ => (evE C cb ρ S1).bind fun v S2 => f o v S2)
    (hc : notCall a = true) (hl : (ap.endLine == pos.line) = true) (hst : notStar e = true) (ha : SdE p a ca) (hb : SdE p e cb) : SdE p (.Call (.Attribute a nm ap) [e] [] pos) cx := fun X C g =>
  (pe_bm PySem.F.plainAttrs_list slot hty (hm X) (ha X C g) (pa_cons (hb X C g) pa_nil (star_cons hst [] _)) (plain_base hc _ _ _) (few1 _ _ hst) hl (star_cons hst [] _) rfl).pq fun σ H Q ⟨μ, ρ, S, he, hs, h⟩ => by
    rw [hev] at h
    refine ⟨μ, ρ, S, he, hs, h.bind.imp fun x S1 μ1 H1 _ e1 s1 h1 v rv => ?_⟩
    obtain ⟨i, ds, a0, vs, rfl, rfl, ei, ea, k1, k2, k3, h1⟩ := h1.withL s1 rv
    refine ⟨ty_lst k1, μ1, ρ, S1, he.mono e1, s1, h1.bind.imp fun y S2 μ2 H2 _ e2 s2 h2 w rw_ => ?_⟩
    exact ho X.K μ2 H2 S2 (.ref i) y _ w Q s2 (rv.mono e2) rw_ h2
theorem sd_app {ap : Pos} (hc : notCall a = true) (hl : (ap.endLine == pos.line) = true) (hst : notStar e = true) (ha : SdE p a ca) (hb : SdE p e cb) : SdE p (.Call (.Attribute a "append" ap) [e] [] pos) (.app ca cb) :=
  sd_bm1 (f := appD) PySem.F.slot_list_append PySem.F.type_list_append (fun X => mt_append) (fun K μ H S x y v u Q hs rx ry h => by
    obtain ⟨i, ds, a0, vs, rfl, rfl, ei, ea, k1, k2, k3, h⟩ := Po.withL hs rx h
    obtain ⟨hz, h⟩ := h.ite
    obtain ⟨x1, x2⟩ := hs.put ea (k2.append (.cons ry .nil)) (by rw [List.length_append]; exact hz)
    exact ⟨a0, vs, u, rfl, rfl, k1, by rw [← k2.length]; exact hz, h _ _ x1 x2 _ rfl⟩) (fun C ρ S => by rw [evE]) hc hl hst ha hb
theorem sd_popAt {ap : Pos} (hc : notCall a = true) (hl : (ap.endLine == pos.line) = true) (hst : notStar e = true) (ha : SdE p a ca) (hb : SdE p e cb) : SdE p (.Call (.Attribute a "pop" ap) [e] [] pos) (.popAt ca cb) :=
  sd_bm1 (f := popAtD) PySem.F.slot_list_pop PySem.F.type_list_pop (fun X => mt_popAt) (fun K μ H S x y v u Q hs rx ry h => by
    obtain ⟨i, ds, a0, vs, rfl, rfl, ei, ea, k1, k2, k3, h⟩ := Po.withL hs rx h
    cases y with
    | int j =>
      obtain ⟨⟨hz1, hz2⟩, h⟩ := Po.ite (show Po K μ H (if -(2 ^ 63) ≤ j ∧ j < 2 ^ 63 then may (seqIndex? j ds.length) fun k => may ds[k]? fun d => Res.ok d (S.set i (Ob.lst (ds.eraseIdx k))) else Res.bad) _ from h)
      obtain ⟨k, ek, h⟩ := h.may
      obtain ⟨d, ed, h⟩ := h.may
      obtain ⟨w, ew, rw_⟩ := k2.get ed
      obtain ⟨x1, x2⟩ := hs.put ea (k2.eraseIdx k) (Nat.le_trans (len_erase _ _) k3)
      exact ⟨a0, vs, j, k, w, rfl, by rw [show u = V.int j from ry], k1, hz1, hz2, by rw [← k2.length]; exact ek, ew, h _ _ x1 x2 _ (rw_.mono x1)⟩
    | _ => exact (show False from h).elim) (fun C ρ S => by rw [evE]) hc hl hst ha hb
theorem RpA.dropLast {K : Fg} {μ : List Addr} {H : Hp} {ds : List D} {vs : List V} (r : RpA K μ H ds vs) : RpA K μ H ds.dropLast vs.dropLast := by
  rw [List.dropLast_eq_take, List.dropLast_eq_take, r.length]
  exact r.take _
theorem sd_pop {ap : Pos} (hc : notCall a = true) (hl : (ap.endLine == pos.line) = true) (ha : SdE p a ca) : SdE p (.Call (.Attribute a "pop" ap) [] [] pos) (.pop ca) := fun X C g =>
  (pe_bm0 (name := "pop") PySem.F.plainAttrs_list PySem.F.slot_list_pop PySem.F.type_list_pop mt_pop (ha X C g) (plain_base hc _ _ _) hl).pq fun σ H Q ⟨μ, ρ, S, he, hs, h⟩ => by
    unfold evE at h
    refine ⟨μ, ρ, S, he, hs, h.bind.imp fun x S1 μ1 H1 _ e1 s1 h1 v rv => ?_⟩
    obtain ⟨i, ds, a0, vs, rfl, rfl, ei, ea, k1, k2, k3, h1⟩ := Po.withL s1 rv h1
    obtain ⟨d, ed, h1⟩ := h1.may
    obtain ⟨w, ew, rw_⟩ := k2.get ed
    obtain ⟨x1, x2⟩ := s1.put ea k2.dropLast (by rw [List.length_dropLast]; omega)
    exact ⟨ty_lst k1, a0, vs, w, rfl, rfl, k1, by rw [← k2.length]; exact ew, h1 _ _ x1 x2 _ (rw_.mono x1)⟩
theorem sd_ext {ap : Pos} (hc : notCall a = true) (hl : (ap.endLine == pos.line) = true) (hst : notStar e = true) (ha : SdE p a ca) (hb : SdR p e cr) : SdE p (.Call (.Attribute a "extend" ap) [e] [] pos) (.ext ca cr) := fun X C g =>
  (pe_bm (name := "extend") PySem.F.plainAttrs_list PySem.F.slot_list_extend PySem.F.type_list_extend mt_extend (ha X C g) (pa_cons (hb X C g) pa_nil (star_cons hst [] _)) (plain_base hc _ _ _) (few1 _ _ hst) hl (star_cons hst [] _) rfl).pq fun σ H Q ⟨μ, ρ, S, he, hs, h⟩ => by
    unfold evE at h
    refine ⟨μ, ρ, S, he, hs, h.bind.imp fun x S1 μ1 H1 _ e1 s1 h1 v rv => ?_⟩
    obtain ⟨i, ds, a0, vs, rfl, rfl, ei, ea, k1, k2, k3, h1⟩ := h1.withL s1 rv
    refine ⟨ty_lst k1, μ1, ρ, S1, he.mono e1, s1, h1.bind.imp fun y S2 μ2 H2 _ e2 s2 h2 w rw_ => ?_⟩
    obtain ⟨i', es, a', us, e3, e4, ej, eb, l1, l2, l3, h2⟩ := Po.withL s2 (rv.mono e2) h2
    cases e3
    cases e4
    obtain ⟨fs, ef, h2⟩ := h2.may
    obtain ⟨hz, h2⟩ := h2.ite
    obtain ⟨b, ws, rfl, m1, m2, m3⟩ := tr_rv s2 rw_ ef
    obtain ⟨x1, x2⟩ := s2.put eb (l2.append m2) (by rw [List.length_append]; exact hz)
    exact ⟨a0, b, us, ws, rfl, rfl, l1, m1, by rw [← l2.length, ← m2.length]; exact hz, h2 _ _ x1 x2 _ rfl⟩

theorem rp_strs {K : Fg} {μ : List Addr} {H : Hp} : ∀ {ds : List D} {vs : List V} {ys : List Str}, RpA K μ H ds vs → strsOf ds = some ys → vs = ys.map V.str
  | [], _, _, h, e => by
    cases e
    exact h
  | .str x :: ds, _, ys, ⟨v, r, e1, h1, h2⟩, e => by
    have e : (strsOf ds).map (x :: ·) = some ys := e
    cases e2 : strsOf ds with
    | none => rw [e2] at e; cases e
    | some zs =>
      rw [e2] at e
      cases e
      rw [e1, rp_strs h2 e2]
      cases h1
      rfl
  | .non :: _, _, _, _, e => nomatch e
  | .bl _ :: _, _, _, _, e => nomatch e
  | .int _ :: _, _, _, _, e => nomatch e
  | .tup _ :: _, _, _, _, e => nomatch e
  | .fix _ :: _, _, _, _, e => nomatch e
  | .ref _ :: _, _, _, _, e => nomatch e
/-- 'text'.join(r) -/
theorem sd_join {ap cp : Pos} {s : Str} {j : _} (hl : (ap.endLine == pos.line) = true) (hst : notStar e = true) (hb : SdR p e cr) : SdE p (.Call (.Attribute (.Constant (.str s) j cp) "join" ap) [e] [] pos) (.join s cr) := fun X C g =>
  (pe_join (o := .Constant (.str s) j cp) pe_str (hb X C g) (star_cons hst [] _) rfl hl).pq fun σ H Q ⟨μ, ρ, S, he, hs, h⟩ => by
    unfold evE at h
    refine ⟨⟨s, rfl⟩, μ, ρ, S, he, hs, h.bind.imp fun w S1 μ1 H1 _ e1 s1 h1 v rv => ?_⟩
    obtain ⟨ds, e2, h1⟩ := h1.may
    obtain ⟨ys, e3, h1⟩ := h1.may
    obtain ⟨z, h1⟩ := h1.ask
    obtain ⟨a, vs, rfl, q1, q2, _⟩ := sq_rv s1 rv e2
    have ev := rp_strs q2 e3
    subst ev
    exact ⟨s, a, ys, rfl, rfl, q1.imp id (fun z => z.1.sq), z, h1.at s1 _ rfl⟩

/-- t.index(i) -/
theorem sd_tix {ap : Pos} (hc : notCall a = true) (hl : (ap.endLine == pos.line) = true) (hst : notStar e = true) (ha : SdE p a ca) (hb : SdE p e cb) : SdE p (.Call (.Attribute a "index" ap) [e] [] pos) (.tix ca cb) := fun X C g =>
  (pe_tm (name := "index") PySem.F.slot_tuple_index PySem.F.type_tuple_index mt_tup_indexI (ha X C g) (pa_cons (hb X C g) pa_nil (star_cons hst [] _)) (plain_base hc _ _ _) (few1 _ _ hst) hl (star_cons hst [] _) rfl).pq fun σ H Q ⟨μ, ρ, S, he, hs, h⟩ => by
    unfold evE at h
    refine ⟨μ, ρ, S, he, hs, h.bind.imp fun x S1 μ1 H1 _ e1 s1 h1 v rv => ?_⟩
    cases x with
    | tup ds =>
      obtain ⟨a0, vs, rfl, k1, k2, k3⟩ := rv
      have h1 : Po X.K μ1 H1 ((evE C cb ρ S1).bind fun y S2 => tixD ds y S2) _ := h1
      refine ⟨⟨a0, vs, rfl, k1⟩, μ1, ρ, S1, he.mono e1, s1, h1.bind.imp fun y S2 μ2 H2 _ e2 s2 h2 w rw_ => ?_⟩
      cases y with
      | int z =>
        have h2 : Po X.K μ2 H2 (may (intsOf ds) fun ns => if z ∈ ns then Res.ok (D.int ((ns.idxOf z : Nat) : Int)) S2 else Res.bad) _ := h2
        obtain ⟨ns, en, h2⟩ := h2.may
        obtain ⟨hz, h2⟩ := h2.ite
        have ev := rp_ints k2 en
        subst ev
        refine ⟨a0, ns, z, ns.idxOf z, rfl, by rw [show w = V.int z from rw_], (e2.tup _ _ k1).sq, ?_, fun m hm e => ?_, h2.at s2 _ rfl⟩
        · rw [List.getElem?_eq_getElem (List.idxOf_lt_length_iff.mpr hz)]
          simp
        · have hm' : m < ns.length := (List.getElem?_eq_some_iff.mp e).1
          have := List.not_of_lt_findIdx (p := (· == z)) (xs := ns) hm
          rw [(List.getElem?_eq_some_iff.mp e).2] at this
          simp at this
      | _ => exact (show False from h2).elim
    | _ => exact (show False from h1).elim

/-! ### in, not in -/
theorem flat_rp {K : Fg} {μ : List Addr} {H : Hp} {x y : D} {v u : V} (rx : Rp K μ H x v) (f : flatD x = true) : flatV v = true := by
  cases x <;> first | (cases f; done) | (cases rx; rfl)
theorem eqF_rp {K : Fg} {μ : List Addr} {H : Hp} {x y : D} {v u : V} (rx : Rp K μ H x v) (ry : Rp K μ H y u) (fx : flatD x = true) (fy : flatD y = true) : eqV u v = eqF y x := by
  cases x <;> cases y <;> first | (cases fx; done) | (cases fy; done) | (cases rx; cases ry; rfl)
theorem flats_rp {K : Fg} {μ : List Addr} {H : Hp} : ∀ {ds : List D} {vs : List V}, RpA K μ H ds vs → ds.all flatD = true → vs.all flatV = true
  | [], _, h, _ => by rw [show _ = ([] : List V) from h]; rfl
  | d :: ds, _, ⟨v, r, e, h1, h2⟩, h => by
    rw [List.all_cons, Bool.and_eq_true] at h
    rw [e, List.all_cons, flat_rp (y := d) (u := v) h1 h.1, flats_rp h2 h.2]
    rfl
theorem anyF_rp {K : Fg} {μ : List Addr} {H : Hp} {x : D} {v : V} (rx : Rp K μ H x v) (fx : flatD x = true) : ∀ {ds : List D} {vs : List V}, RpA K μ H ds vs → ds.all flatD = true → inV v vs = ds.any fun y => eqF y x
  | [], _, h, _ => by rw [show _ = ([] : List V) from h]; rfl
  | d :: ds, _, ⟨w, r, e, h1, h2⟩, h => by
    rw [List.all_cons, Bool.and_eq_true] at h
    rw [e]
    show (eqV w v || inV v r) = _
    rw [List.any_cons, eqF_rp rx h1 fx h.1, anyF_rp rx fx h2 h.2]
def rIn2 (K : Fg) (neg : Bool) : R2 := fun x y H Q => rIn K neg x y H Q ∨ ∃ d ds, Dp K H x d ∧ Dp K H y (.list ds) ∧ SeqAt.shaped d = true ∧ SeqAt.shaped (.list ds) = true ∧ Q (.bl (if neg then !ds.any (fun z => PyData.eqv z d) else ds.any fun z => PyData.eqv z d)) H
/-- in, of a dict -/
def rInK (neg : Bool) : R2 := fun x y H Q => ∃ a o, y = .ref a ∧ DGet H a x o ∧ Q (.bl (if neg then !o.isSome else o.isSome)) H
theorem op_inK {X : Cx} (hu : X.A.units + 1 < cLine) : OpR X (compareOp .In) (rInK false) := by
  intro pins s σ H x y v u Q I rx ry q
  obtain ⟨a, o, rfl, g, q⟩ := q
  cases ry
  exact d_in hu I g rx fun s' I' => ⟨.bl o.isSome, H, I', rfl, q⟩
theorem op_notInK {X : Cx} (hu : X.A.units + 1 < cLine) : OpR X (compareOp .NotIn) (rInK true) := by
  intro pins s σ H x y v u Q I rx ry q
  obtain ⟨a, o, rfl, g, q⟩ := q
  cases ry
  exact d_notIn hu I g rx fun s' I' => ⟨.bl (!o.isSome), H, I', rfl, q⟩
theorem key_rp {K : Fg} {μ : List Addr} {H : Hp} {x : D} {v : V} {k : Key} (r : Rp K μ H x v) (h : keyOf x = some k) : v = kV k := by
  cases x with
  | int i => cases h; exact r
  | str i => cases h; exact r
  | _ => cases h
def rIn3 (K : Fg) (neg : Bool) : R2 := fun x y H Q => rInK neg x y H Q ∨ rIn2 K neg x y H Q
theorem os_in {K : Fg} {μ : List Addr} {H : Hp} {S : Sto} {x : D} {r : RV} {v u : V} {Q : VK} {k : Bool} (neg : Bool) (hs : StOk K μ H S) (rx : Rp K μ H x v) (rr : RvR K μ H r u) (h : inD x r S = some k) (q : Q (.bl (if neg then !k else k)) H) : rIn3 K neg v u H Q := by
  unfold inD at h
  cases e1 : sqOf S r with
  | none =>
    rw [e1] at h
    have h : (match dicOf S r, keyOf x with
      | some ks, some k => some (gD ks k).isSome
      | _, _ => none) = some k := h
    cases e2 : dicOf S r with
    | none => rw [e2] at h; cases h
    | some ks =>
      cases e3 : keyOf x with
      | none => rw [e2, e3] at h; cases h
      | some j =>
        rw [e2, e3] at h
        cases h
        obtain ⟨a, vs, rfl, h1, h2, h3, h4⟩ := dic_rv hs rr e2
        refine .inl ⟨a, valV vs j, rfl, ?_, by rw [h2.isSome]; exact q⟩
        rw [key_rp rx e3]
        exact DGet.k h1
  | some ds =>
    refine .inr ?_
    rw [e1] at h
    have h : (if (flatD x && ds.all flatD) = true then some (ds.any fun y => eqF y x) else (match lsOf S r with
      | some ds => (match toP S x, toPs S ds with
        | some p, some ps => if (SeqAt.shaped p && SeqAt.shaped (.list ps)) = true then some (ps.any fun q => PyData.eqv q p) else none
        | _, _ => none)
      | none => none)) = some k := h
    split at h
    · rename_i hf
      rw [Bool.and_eq_true] at hf
      cases h
      obtain ⟨a, vs, rfl, h1, h2, _⟩ := sq_rv hs rr e1
      refine .inl ⟨a, vs, rfl, sq_or h1, flat_rp (y := x) (u := v) rx hf.1, flats_rp h2 hf.2, ?_⟩
      rw [anyF_rp rx hf.1 h2 hf.2]
      exact q
    · cases e2 : lsOf S r with
      | none => rw [e2] at h; cases h
      | some es =>
        rw [e2] at h
        obtain ⟨a, vs, rfl, h1, h2, _⟩ := ls_rv hs rr e2
        have h : (match toP S x, toPs S es with
          | some p, some ps => if (SeqAt.shaped p && SeqAt.shaped (.list ps)) = true then some (ps.any fun q => PyData.eqv q p) else none
          | _, _ => none) = some k := h
        cases e3 : toP S x with
        | none => rw [e3] at h; cases h
        | some p1 =>
          cases e4 : toPs S es with
          | none => rw [e3, e4] at h; cases h
          | some ps =>
            rw [e3, e4] at h
            have h : (if (SeqAt.shaped p1 && SeqAt.shaped (.list ps)) = true then some (ps.any fun q => PyData.eqv q p1) else none) = some k := h
            split at h
            · rename_i hf
              rw [Bool.and_eq_true] at hf
              cases h
              exact .inr ⟨p1, ps, toP_dp hs rx e3, .lst h1 (toPs_dp hs h2 e4), hf.1, hf.2, q⟩
            · cases h
theorem sc_in (hm : behindInMarks .In b = false) (ha : SdE p a ca) (hb : SdR p b cr) : SdC p (.Compare a [.In] [b] pos) (.inr ca cr) := fun X C g => by
  have hu := g.un
  have ho : OpR X (compareOp .In) (rIn3 X.K false) := (op_inK (by omega)).or (op_in_seq.or (op_inD (by omega)))
  refine ⟨_, pe_cmpR ho (ha X C g) (hb X C g) hm, pt_cmpR ho (ha X C g) (hb X C g) hm, fun σ H Q ⟨μ, ρ, S, he, hs, h⟩ => ?_⟩
  unfold evE at h
  refine ⟨μ, ρ, S, he, hs, h.bind.imp fun x S1 μ1 H1 _ e1 s1 h1 v rv => ?_⟩
  refine ⟨μ1, ρ, S1, he.mono e1, s1, h1.bind.imp fun y S2 μ2 H2 _ e2 s2 h2 u ru => ?_⟩
  obtain ⟨k, ek, h2⟩ := h2.may
  exact os_in false s2 (rv.mono e2) ru ek (h2.at s2 _ rfl)
theorem sc_notIn (hm : behindInMarks .NotIn b = false) (ha : SdE p a ca) (hb : SdR p b cr) : SdC p (.Compare a [.NotIn] [b] pos) (.notInr ca cr) := fun X C g => by
  have hu := g.un
  have ho : OpR X (compareOp .NotIn) (rIn3 X.K true) := (op_notInK (by omega)).or (op_notIn_seq.or (op_notInD (by omega)))
  refine ⟨_, pe_cmpR ho (ha X C g) (hb X C g) hm, pt_cmpR ho (ha X C g) (hb X C g) hm, fun σ H Q ⟨μ, ρ, S, he, hs, h⟩ => ?_⟩
  unfold evE at h
  refine ⟨μ, ρ, S, he, hs, h.bind.imp fun x S1 μ1 H1 _ e1 s1 h1 v rv => ?_⟩
  refine ⟨μ1, ρ, S1, he.mono e1, s1, h1.bind.imp fun y S2 μ2 H2 _ e2 s2 h2 u ru => ?_⟩
  obtain ⟨k, ek, h2⟩ := h2.may
  exact os_in true s2 (rv.mono e2) ru ek (h2.at s2 _ rfl)
theorem b_in : ∀ C ρ S d S', evE C (.inr ca cr) ρ S = .ok d S' → isB d = true := fun C ρ S d S' h => by
  unfold evE at h
  obtain ⟨x, S1, _, h⟩ := bind_ok h
  obtain ⟨y, S2, _, h⟩ := bind_ok h
  obtain ⟨k, _, h⟩ := may_ok h
  cases h; rfl
theorem b_notIn : ∀ C ρ S d S', evE C (.notInr ca cr) ρ S = .ok d S' → isB d = true := fun C ρ S d S' h => by
  unfold evE at h
  obtain ⟨x, S1, _, h⟩ := bind_ok h
  obtain ⟨y, S2, _, h⟩ := bind_ok h
  obtain ⟨k, _, h⟩ := may_ok h
  cases h; rfl

/-! ### dicts -/
/-- a value that is a dict of the store -/
theorem Po.withD {α : Type} {K : Fg} {μ : List Addr} {H : Hp} {S : Sto} {x : D} {v : V} {f : Nat → List (Key × D) → Res α} {P : α → Sto → List Addr → Hp → Prop} (hs : StOk K μ H S) (r : Rp K μ H x v) (h : Po K μ H (withD S x f) P) : ∃ i ks a vs, x = .ref i ∧ v = .ref a ∧ S[i]? = some (.dic ks) ∧ μ[i]? = some a ∧ H a = some (.dK vs) ∧ RpK K μ H ks vs ∧ ks.length ≤ sizeLine ∧ Nk ks ∧ Po K μ H (f i ks) P := by
  cases x with
  | ref i =>
    have h : Po K μ H (match S[i]? with
      | some (Ob.dic ks) => f i ks
      | _ => Res.bad) P := h
    cases ei : S[i]? with
    | none => rw [ei] at h; exact h.elim
    | some o =>
      rw [ei] at h
      cases o with
      | lst ds => exact h.elim
      | dic ks =>
        obtain ⟨a, vs, e1, e2, h1, h2, h3, h4⟩ := rp_refD r hs ei
        exact ⟨i, ks, a, vs, rfl, e1, ei, e2, h1, h2, h3, h4, h⟩
  | _ => exact (show False from h).elim
/-- {} -/
theorem sd_dnew : SdE p (.Dict [] [] pos) .dnew := fun X C g => pe_dnewK.pq fun σ H Q ⟨μ, ρ, S, he, hs, h⟩ => by
  unfold evE at h
  intro q hq
  refine h (μ ++ [q]) _ ((hs.fresh hq _).take hq) ((hs.freshOk hq _).takeO (fun m => ?_) ⟨[], upd_same, rfl, Nat.zero_le _, trivial⟩) _ ⟨q, rfl, ?_⟩
  · obtain ⟨w, e, _⟩ := hs.mem m
    rw [hq] at e; cases e
  · rw [← hs.len, List.getElem?_append_right (Nat.le_refl _), Nat.sub_self]
    rfl
/-- d.get(k, x) -/
theorem sd_dget {ap : Pos} (hc : notCall a = true) (hl : (ap.endLine == pos.line) = true) (hst : notStar b = true) (hst2 : notStar c = true) (ha : SdE p a ca) (hb : SdE p b cb) (hcc : SdE p c cc) : SdE p (.Call (.Attribute a "get" ap) [b, c] [] pos) (.dget ca cb cc) := fun X C g =>
  (pe_dget2 (by have := g.un; omega) (ha X C g) (hb X C g) (hcc X C g) ⟨plain_base hc _ _ _, by
    rw [star_cons hst, star_cons hst2]
    rfl, hl, by
    rw [star_cons hst, star_cons hst2]
    rfl⟩).pq fun σ H Q ⟨μ, ρ, S, he, hs, h⟩ => by
    unfold evE at h
    refine ⟨μ, ρ, S, he, hs, h.bind.imp fun x S1 μ1 H1 _ e1 s1 h1 v rv => ?_⟩
    obtain ⟨i, ks, a0, vs, rfl, rfl, ei, ea, k1, k2, k3, k4, h1⟩ := h1.withD s1 rv
    refine ⟨a0, rfl, .inl ⟨vs, .inl k1⟩, μ1, ρ, S1, he.mono e1, s1, h1.bind.imp fun y S2 μ2 H2 _ e2 s2 h2 w rw_ => ?_⟩
    refine ⟨μ2, ρ, S2, he.mono (e1.trans e2), s2, h2.bind.imp fun z S3 μ3 H3 _ e3 s3 h3 t rt => ?_⟩
    obtain ⟨i', ks', a', vs', e4, e5, ej, eb, l1, l2, l3, l4, h3⟩ := Po.withD s3 ((rv.mono e2).mono e3) h3
    cases e4
    cases e5
    obtain ⟨k, ek, h3⟩ := h3.may
    refine ⟨valV vs' k, ?_, ?_⟩
    · rw [key_rp (rw_.mono e3) ek]
      exact DGet.k l1
    · cases eg : gD ks' k with
      | none =>
        rw [l2.getN eg]
        rw [eg] at h3
        exact h3.at s3 _ rt
      | some d =>
        obtain ⟨w', ew, rd⟩ := l2.getS eg
        rw [ew]
        rw [eg] at h3
        exact h3.at s3 _ rd
end
end PQ

/-! New lists; what is walked; comprehensions. -/
namespace PQ
open PySem PySem.Spec PyProof.Rows L2
section
variable {p : Pl} {a b c e : Expr} {ca cb cc : CE} {cr cr2 : CR} {pos q : Pos}
/-- one's own new list at l -/
theorem own_new {K : Fg} {μ : List Addr} {H : Hp} {S : Sto} {ds : List D} {vs : List V} {l : Addr} (s1 : StOk K μ H S) (r : RpA K μ H ds vs) (hl : H l = none) : l ∉ μ ∧ RpA K μ (upd H l (.lst vs)) ds vs := by
  refine ⟨fun m => ?_, r.mono (s1.fresh hl _)⟩
  obtain ⟨w, ew, _⟩ := s1.mem m
  rw [hl] at ew; cases ew
theorem sq_cat (ha : SdR p a cr) (hb : SdR p b cr2) : SdQ p (.BinOp a .Add b pos) (.cat cr cr2) := fun X C g =>
  (pe_op op_cat (ha X C g) (hb X C g)).pq fun σ H Q ⟨μ, ρ, S, he, hs, h⟩ => by
    unfold evQ at h
    refine ⟨μ, ρ, S, he, hs, h.bind.imp fun x S1 μ1 H1 _ e1 s1 h1 v rv => ?_⟩
    refine ⟨μ1, ρ, S1, he.mono e1, s1, h1.bind.imp fun y S2 μ2 H2 _ e2 s2 h2 u ru => ?_⟩
    obtain ⟨ds, ed, h2⟩ := h2.may
    obtain ⟨es, ee, h2⟩ := h2.may
    obtain ⟨z, h2⟩ := h2.ask
    obtain ⟨a, vs, rfl, k1, k2, k3⟩ := tr_rv s2 (rv.mono e2) ed
    obtain ⟨b, us, rfl, l1, l2, l3⟩ := tr_rv s2 ru ee
    refine ⟨a, b, vs, us, rfl, rfl, k1, l1, by rw [← k2.length, ← l2.length]; exact z, fun l hl => ?_⟩
    obtain ⟨n1, n2⟩ := own_new s2 (k2.append l2) hl
    exact h2 μ2 _ (s2.fresh hl _) (s2.freshOk hl _) l _ (e1.alive _ (e2.alive _ hl)) upd_same n1 n2 (by rw [List.length_append]; exact z)

/-! ### sorted -/
def rSortD (K : Fg) : List V → Hp → VK → Prop := fun vs H Q => ∃ (a : Addr) (xs : List V) (ps : List PyData), vs = [V.ref a] ∧ SqL K H a xs ∧ DpAll K H xs ps ∧ PySem.W.AllAlike ps ∧ PySem.W.Sortable ps ∧ (∀ p ∈ ps, p.depth ≤ 64) ∧ xs.length ≤ sizeLine ∧
  ∀ l, H l = none → Q (.ref l) (upd H l (.lst (((xs.zip ps).mergeSort (PySem.W.dataLe false (·.2))).map (·.1))))
theorem dpAll_zip {K : Fg} {H : Hp} : ∀ {xs : List V} {ps : List PyData}, DpAll K H xs ps → (xs.zip ps).map (·.2) = ps ∧ (xs.zip ps).map (·.1) = xs
  | _, _, .nil => ⟨rfl, rfl⟩
  | _, _, .cons h t => by
    obtain ⟨h1, h2⟩ := dpAll_zip t
    rw [List.zip_cons_cons, List.map_cons, List.map_cons, h1, h2]
    exact ⟨rfl, rfl⟩
theorem cr_sortD {X : Cx} (hu : X.A.units + 70 < cLine) : CallR X (.builtin "sorted") (rSortD X.K) := by
  intro pins s σ H vs us Q I r h
  obtain ⟨a, xs, ps, rfl, hs, hp, hal, hso, hdp, hz, q⟩ := h
  obtain ⟨its, rv, hl, _⟩ := I.list hs
  rw [Vals.ref1 r]
  obtain ⟨z2, z1⟩ := dpAll_zip hp
  have e1 : ∀ {xs : List V} {ps : List PyData} {its : List Value}, DpAll X.K H xs ps → Vals xs its → PySem.W.EachIs (fun (u : Value) (b : V × PyData) => RelV b.1 u) its (xs.zip ps) := by
    intro xs ps its h
    induction xs generalizing ps its with
    | nil => intro r; cases h; cases r; exact .nil
    | cons x xs ih => intro r; cases h with | cons h1 h2 => cases r with | cons r1 r2 => exact .cons r1 (ih h2 r2)
  have e2 : ∀ {xs : List V} {ps : List PyData} {its : List Value}, DpAll X.K H xs ps → Vals xs its → PySem.W.EachIs (fun (u : Value) (b : V × PyData) => ∃ as, Reads s.heap u b.2 as) its (xs.zip ps) := by
    intro xs ps its h
    induction xs generalizing ps its with
    | nil => intro r; cases h; cases r; exact .nil
    | cons x xs ih => intro r; cases h with | cons h1 h2 => cases r with | cons r1 r2 => exact .cons (Dp.reads I _ _ _ h1 r1) (ih h2 r2)
  have e3 : ∀ {out : List Value} {bs : List (V × PyData)}, PySem.W.EachIs (fun (u : Value) (b : V × PyData) => RelV b.1 u) out bs → Vals (bs.map (·.1)) out := by
    intro out bs h
    induction h with
    | nil => exact .nil
    | cons h _ ih => exact .cons h ih
  have hlen : (xs.zip ps).length = xs.length := by
    have := congrArg List.length z1
    rw [List.length_map] at this
    exact this
  refine PySem.W.sorted_data (vs := its) (bs := xs.zip ps) (enc := fun b : V × PyData => b.2) hl.isList (e1 hp rv) (e2 hp rv) (by rw [z2]; exact hal) (by rw [z2]; exact hso) (by rw [hlen]; exact hz) (fun b hb => ?_) fun out ol oe => ?_
  · have hb2 : b.2 ∈ ps := by rw [← z2]; exact List.mem_map_of_mem hb
    have := hdp b.2 hb2
    omega
  · obtain ⟨ep, he'⟩ := PyProof.Rows.sortedAll_at s.heap its out.toArray
    have lz : (((xs.zip ps).mergeSort (PySem.W.dataLe false (·.2))).map (·.1)).length ≤ sizeLine := by
      rw [List.length_map, List.length_mergeSort, hlen]
      exact hz
    exact ⟨.ref _, _, I.laid (t' := s.toks) (o := .lst (((xs.zip ps).mergeSort (PySem.W.dataLe false (·.2))).map (·.1))) (fun _ _ => PyProof.Rows.sortedAll_old) (Nat.le_succ _) ⟨lz, out, ep, e3 oe, he'⟩, rfl, q _ (I.hok.fresh (Nat.le_succ _))⟩
theorem toPs_map {S : Sto} : ∀ {ds : List D} {ps : List PyData}, toPs S ds = some ps → ds.map (fun d => (toP S d).getD .none) = ps
  | [], _, h => by cases h; rfl
  | d :: ds, ps, h => by
    have h : (match toPW (refP S 8) d, toPsW (refP S 8) ds with
      | some p, some ps => some (p :: ps)
      | _, _ => none) = some ps := h
    cases e1 : toPW (refP S 8) d with
    | none => rw [e1] at h; cases h
    | some p1 =>
      cases e2 : toPsW (refP S 8) ds with
      | none => rw [e1, e2] at h; cases h
      | some qs =>
        rw [e1, e2] at h
        cases h
        rw [List.map_cons, toPs_map (ds := ds) e2]
        show (toPW (refP S 8) d).getD .none :: qs = _
        rw [e1]
        rfl
theorem sort_rp {K : Fg} {μ : List Addr} {H : Hp} {S : Sto} {ds : List D} {vs : List V} {ps : List PyData} (r : RpA K μ H ds vs) (h : toPs S ds = some ps) :
    RpA K μ H (ds.mergeSort (PySem.W.dataLe false fun d => (toP S d).getD .none)) (((vs.zip ps).mergeSort (PySem.W.dataLe false (·.2))).map (·.1)) := by
  have hm := toPs_map h
  -- the pairs of a datum and its value
  have hz : ∀ {ds : List D} {vs : List V}, RpA K μ H ds vs → (ds.zip vs).map (·.1) = ds ∧ (ds.zip vs).map (·.2) = vs ∧ ∀ t ∈ ds.zip vs, Rp K μ H t.1 t.2 := by
    intro ds
    induction ds with
    | nil => intro vs r; rw [show vs = [] from r]; exact ⟨rfl, rfl, fun _ h => nomatch h⟩
    | cons d ds ih =>
      intro vs r
      obtain ⟨v, r', e, h1, h2⟩ := r
      subst e
      obtain ⟨i1, i2, i3⟩ := ih h2
      rw [List.zip_cons_cons, List.map_cons, List.map_cons, i1, i2]
      refine ⟨rfl, rfl, fun t ht => ?_⟩
      rcases List.mem_cons.mp ht with rfl | ht
      · exact h1
      · exact i3 t ht
  obtain ⟨z1, z2, z3⟩ := hz r
  have build : ∀ ts : List (D × V), (∀ t ∈ ts, Rp K μ H t.1 t.2) → RpA K μ H (ts.map (·.1)) (ts.map (·.2)) := by
    intro ts
    induction ts with
    | nil => intro _; exact rfl
    | cons t ts ih => intro h; exact .cons (h t List.mem_cons_self) (ih fun u hu => h u (List.mem_cons_of_mem _ hu))
  have l1 : ds.mergeSort (PySem.W.dataLe false fun d => (toP S d).getD .none) = ((ds.zip vs).mergeSort (PySem.W.dataLe false fun t : D × V => (toP S t.1).getD .none)).map (·.1) := by
    have q := List.map_mergeSort (r := PySem.W.dataLe false fun t : D × V => (toP S t.1).getD .none) (s := PySem.W.dataLe false fun d : D => (toP S d).getD .none) (f := fun t : D × V => t.1) (l := ds.zip vs) (fun a _ b _ => rfl)
    rw [z1] at q
    exact q.symm
  have l2 : (vs.zip ps) = (ds.zip vs).map fun t => (t.2, (toP S t.1).getD .none) := by
    rw [← hm]
    clear hm h z1 z2 z3 l1
    induction ds generalizing vs with
    | nil => rw [show vs = [] from r]; rfl
    | cons d ds ih =>
      obtain ⟨v, r', e, h1, h2⟩ := r
      subst e
      rw [List.map_cons, List.zip_cons_cons, List.zip_cons_cons, List.map_cons, ih h2]
  have l3 : (vs.zip ps).mergeSort (PySem.W.dataLe false (·.2)) = ((ds.zip vs).mergeSort (PySem.W.dataLe false fun t : D × V => (toP S t.1).getD .none)).map fun t => (t.2, (toP S t.1).getD .none) := by
    have q := List.map_mergeSort (r := PySem.W.dataLe false fun t : D × V => (toP S t.1).getD .none) (s := PySem.W.dataLe false fun t : V × PyData => t.2) (f := fun t : D × V => (t.2, (toP S t.1).getD .none)) (l := ds.zip vs) (fun a _ b _ => rfl)
    rw [l2]
    exact q.symm
  rw [l1, l3, List.map_map]
  exact build _ fun t ht => z3 t (List.mem_mergeSort.mp ht)
theorem sq_sorted (hb : ("sorted" : Str) ∈ p.B) (hg : p.sc.names.lookup ("sorted" : Str) = some .globalImplicit) (hst : notStar e = true) (ha : SdR p e cr) : SdQ p (.Call (.Name "sorted" q) [e] [] pos) (.sorted cr) := fun X C g =>
  (pe_callB (cr_sortD (by have := g.un; omega)) (gl_of g hg) (g.blt _ hb) (by decide +kernel) (pa_cons (ha X C g) pa_nil (star_cons hst [] _)) (by decide) (by decide) (star_cons hst [] _) rfl).pq fun σ H Q ⟨μ, ρ, S, he, hs, h⟩ => by
    unfold evQ at h
    refine ⟨μ, ρ, S, he, hs, h.bind.imp fun x S1 μ1 H1 _ e1 s1 h1 v rv => ?_⟩
    obtain ⟨ds, eds, h1⟩ := h1.may
    obtain ⟨a, vs, rfl, h2, h3, h4⟩ := ls_rv s1 rv eds
    unfold sortD at h1
    cases ep : toPs S1 ds with
    | none => rw [ep] at h1; exact h1.elim
    | some ps =>
      rw [ep] at h1
      obtain ⟨⟨z1, z2, z3⟩, h1⟩ := Po.ask h1
      refine ⟨a, vs, ps, rfl, h2, toPs_dp s1 h3 ep, z1, z2, z3, by rw [← h3.length]; exact h4, fun l hl => ?_⟩
      have hr := sort_rp h3 ep
      obtain ⟨n1, n2⟩ := own_new s1 hr hl
      exact h1 μ1 _ (s1.fresh hl _) (s1.freshOk hl _) l _ (e1.alive _ hl) upd_same n1 n2 (by rw [List.length_mergeSort]; exact h4)

/-! ### list(range(..)) -/
theorem rgD_rp {K : Fg} {μ : List Addr} {H : Hp} (i j : Int) : RpA K μ H (rgD i j) (rgV i j) := by
  unfold rgD rgV
  generalize (List.range (j - i).toNat) = l
  induction l with
  | nil => exact rfl
  | cons k l ih => exact .cons rfl ih
theorem rgD_len (i j : Int) : (rgD i j).length = (j - i).toNat := by unfold rgD; rw [List.length_map, List.length_range]
theorem sq_listRg1 {q2 pos2 : Pos} (hb : ("list" : Str) ∈ p.B) (hg : p.sc.names.lookup ("list" : Str) = some .globalImplicit) (hb2 : ("range" : Str) ∈ p.B) (hg2 : p.sc.names.lookup ("range" : Str) = some .globalImplicit) (hst : notStar a = true) (ha : SdE p a ca) :
    SdQ p (.Call (.Name "list" q) [.Call (.Name "range" q2) [a] [] pos2] [] pos) (.listRg (.lit (.int 0)) ca) := fun X C g =>
  (pe_listRg g.calm (gl_of g hg) (g.blt _ hb) (prg_1 (gl_of g hg2) (g.blt _ hb2) (ha X C g) (star_cons hst [] _)) rfl).pq fun σ H Q ⟨μ, ρ, S, he, hs, h⟩ => by
    have h0 : evE C (.lit (.int 0)) ρ S = Res.ok (D.int 0) S := by rw [evE]
    unfold evQ at h
    rw [h0] at h
    refine ⟨μ, ρ, S, he, hs, Po.imp (Po.bind (r := evE C ca ρ S) h) fun y S1 μ1 H1 _ e1 s1 h1 v rv => ?_⟩
    cases y with
    | int j =>
      obtain ⟨z, h1⟩ := Po.ask (show Po X.K μ1 H1 (ask (RgOk 0 j) (Res.ok (rgD 0 j) S1)) _ from h1)
      refine ⟨j, rv, z, fun l hl => ?_⟩
      obtain ⟨n1, n2⟩ := own_new s1 (rgD_rp 0 j) hl
      exact h1 μ1 _ (s1.fresh hl _) (s1.freshOk hl _) l _ (e1.alive _ hl) upd_same n1 n2 (by rw [rgD_len, sizeLine_eq]; have := z.2.2.2.2; omega)
    | _ => exact (show False from h1).elim
theorem sq_listRg2 {q2 pos2 : Pos} (hb : ("list" : Str) ∈ p.B) (hg : p.sc.names.lookup ("list" : Str) = some .globalImplicit) (hb2 : ("range" : Str) ∈ p.B) (hg2 : p.sc.names.lookup ("range" : Str) = some .globalImplicit) (hst : notStar a = true) (hst2 : notStar b = true) (ha : SdE p a ca) (hb' : SdE p b cb) :
    SdQ p (.Call (.Name "list" q) [.Call (.Name "range" q2) [a, b] [] pos2] [] pos) (.listRg ca cb) := fun X C g =>
  (pe_listRg g.calm (gl_of g hg) (g.blt _ hb) (prg_2 (gl_of g hg2) (g.blt _ hb2) (ha X C g) (hb' X C g) (star_cons hst [b] _) (star_cons hst2 [] _) (star_any _ _ (show [b].all notStar = true by rw [List.all_cons, hst2]; rfl))) rfl).pq fun σ H Q ⟨μ, ρ, S, he, hs, h⟩ => by
    unfold evQ at h
    refine ⟨μ, ρ, S, he, hs, h.bind.imp fun x S1 μ1 H1 _ e1 s1 h1 v rv => ?_⟩
    refine ⟨μ1, ρ, S1, he.mono e1, s1, h1.bind.imp fun y S2 μ2 H2 _ e2 s2 h2 u ru => ?_⟩
    cases x with
    | int i =>
      cases y with
      | int j =>
        obtain ⟨z, h2⟩ := Po.ask (show Po X.K μ2 H2 (ask (RgOk i j) (Res.ok (rgD i j) S2)) _ from h2)
        refine ⟨i, j, rv, ru, z, fun l hl => ?_⟩
        obtain ⟨n1, n2⟩ := own_new s2 (rgD_rp i j) hl
        exact h2 μ2 _ (s2.fresh hl _) (s2.freshOk hl _) l _ (e1.alive _ (e2.alive _ hl)) upd_same n1 n2 (by rw [rgD_len, sizeLine_eq]; have := z.2.2.2.2; omega)
      | _ => exact (show False from h2).elim
    | _ => exact (show False from h2).elim
end

/-! ### what is walked -/
/-- the walk of t's items, as long as nothing of the walked list is changed -/
def ItOk (K : Fg) (μ₀ : List Addr) (H₀ : Hp) (t : Itv) (J : It) : Prop := ∀ μ H S, Ext K μ₀ H₀ μ H → StOk K μ H S → t.still S → (∀ i, i < t.items.length → J.go i H ∧ ∀ x H', J.yld i H x H' → H' = H ∧ ∃ d, t.items[i]? = some d ∧ Rp K μ H d x) ∧ J.stop t.items.length H
def tI (K : Fg) (f : En → Sto → Res Itv) : TI := fun σ H R => ∃ μ ρ S, EnvOk K μ H ρ σ ∧ StOk K μ H S ∧ Po K μ H (f ρ S) fun t S' μ' H' => ∀ J, ItOk K μ' H' t J → R J H'
def SdI (p : Pl) (tg e : Expr) (c : CI) : Prop := ∀ X C, Good X p C → PI X tg e (tI X.K (evI C c))
/-- a list or a tuple, whichever comes -/
def iSeq (K : Fg) (tl : TE) : TI := fun σ H R => tl σ H fun x H1 => ∃ a, x = .ref a ∧ (((∃ xs, SqL K H1 a xs) ∧ R (Itl K a) H1) ∨ ((∃ xs, SqT K H1 a xs) ∧ R (Itt K a) H1))
/-- .. or a text -/
def iSeqS (K : Fg) (tl : TE) : TI := fun σ H R => tl σ H fun x H1 => (∃ a, x = .ref a ∧ (((∃ xs, SqL K H1 a xs) ∧ R (Itl K a) H1) ∨ ((∃ xs, SqT K H1 a xs) ∧ R (Itt K a) H1))) ∨ ∃ z, x = .str z ∧ R (Its z) H1
theorem pi_seqS {X : Cx} {tg l : Expr} {tl : TE} (hl : PE X l tl) : PI X tg l (iSeqS X.K tl) := by
  refine ⟨fun pins s σ H R I h => ?_⟩
  refine thn (hl.run pins s σ H _ I h) fun v s1 ⟨x, H1, I1, r1, q1⟩ => ?_
  rcases q1 with ⟨a, e, q⟩ | ⟨z, e, q⟩
  · subst e
    cases r1
    rcases q with ⟨⟨xs, hq⟩, q⟩ | ⟨⟨xs, hq⟩, q⟩
    · obtain ⟨its, rv, p, hz⟩ := I1.list hq
      refine wpAny_pyIter_list p.isList ?_
      refine ⟨s1.heap.objs.size, [s1.heap.objs.size], _, _, H1, rfl, I1.kept (t' := s1.toks) fun b o e => Heap.get?_push_of_some _ e, turn_list a _, ⟨_, Heap.get?_push_size _ rfl, rfl, rfl⟩, fun b hb => ?_, q⟩
      have e : b = s1.heap.objs.size := by simpa using hb
      subst e
      exact I1.fpOk (Nat.le_refl _) (I1.hok.fresh (Nat.le_refl _))
    · obtain ⟨its, rv, p, hz⟩ := I1.tuple hq
      refine wpAny_pyIter_tuple (show s1.heap.IsTuple a its.toArray from p) ?_
      refine ⟨s1.heap.objs.size, [s1.heap.objs.size], _, _, H1, rfl, I1.kept (t' := s1.toks) fun b o e => Heap.get?_push_of_some _ e, turn_tuple a _, ⟨_, Heap.get?_push_size _ rfl, rfl, rfl⟩, fun b hb => ?_, q⟩
      have e : b = s1.heap.objs.size := by simpa using hb
      subst e
      exact I1.fpOk (Nat.le_refl _) (I1.hok.fresh (Nat.le_refl _))
  · subst e
    obtain ⟨t, rfl⟩ := r1
    cases ha : z.cps.all (· < 128)
    · exact wpAny_pyIter_wide ha (pi_one (tk := s1.toks) I1 _ (turn_str _ z t "str_iterator" (.inr rfl)) ⟨_, Heap.get?_push_size _ rfl, rfl, rfl⟩ q)
    · exact wpAny_pyIter_ascii ha (pi_one (tk := s1.toks) I1 _ (turn_str _ z t "str_ascii_iterator" (.inl rfl)) ⟨_, Heap.get?_push_size _ rfl, rfl, rfl⟩ q)
theorem its_ok {K : Fg} {μ : List Addr} {H : Hp} {z : Str} : (∀ i, i < (lettersD z).length → (Its z).go i H ∧ ∀ x H', (Its z).yld i H x H' → H' = H ∧ ∃ d, (lettersD z)[i]? = some d ∧ Rp K μ H d x) ∧ (Its z).stop (lettersD z).length H := by
  have hl : (lettersD z).length = z.cps.size := by
    unfold lettersD
    rw [List.length_map, Array.length_toList]
  refine ⟨fun i hi => ⟨by show i < z.cps.size; omega, fun x H' y => ?_⟩, by show z.cps.size ≤ _; omega⟩
  obtain ⟨e, c, ec, rfl⟩ := y
  refine ⟨e, .str ⟨#[c]⟩, ?_, rfl⟩
  unfold lettersD
  rw [List.getElem?_map, Array.getElem?_toList, ec]
  rfl
theorem pi_seq {X : Cx} {tg l : Expr} {tl : TE} (hl : PE X l tl) : PI X tg l (iSeq X.K tl) := by
  refine ⟨fun pins s σ H R I h => ?_⟩
  refine thn (hl.run pins s σ H _ I h) fun v s1 ⟨x, H1, I1, r1, q1⟩ => ?_
  obtain ⟨a, e, q⟩ := q1
  subst e
  cases r1
  rcases q with ⟨⟨xs, hq⟩, q⟩ | ⟨⟨xs, hq⟩, q⟩
  · obtain ⟨its, rv, p, hz⟩ := I1.list hq
    refine wpAny_pyIter_list p.isList ?_
    refine ⟨s1.heap.objs.size, [s1.heap.objs.size], _, _, H1, rfl, I1.kept (t' := s1.toks) fun b o e => Heap.get?_push_of_some _ e, turn_list a _, ⟨_, Heap.get?_push_size _ rfl, rfl, rfl⟩, fun b hb => ?_, q⟩
    have e : b = s1.heap.objs.size := by simpa using hb
    subst e
    exact I1.fpOk (Nat.le_refl _) (I1.hok.fresh (Nat.le_refl _))
  · obtain ⟨its, rv, p, hz⟩ := I1.tuple hq
    refine wpAny_pyIter_tuple (show s1.heap.IsTuple a its.toArray from p) ?_
    refine ⟨s1.heap.objs.size, [s1.heap.objs.size], _, _, H1, rfl, I1.kept (t' := s1.toks) fun b o e => Heap.get?_push_of_some _ e, turn_tuple a _, ⟨_, Heap.get?_push_size _ rfl, rfl, rfl⟩, fun b hb => ?_, q⟩
    have e : b = s1.heap.objs.size := by simpa using hb
    subst e
    exact I1.fpOk (Nat.le_refl _) (I1.hok.fresh (Nat.le_refl _))
theorem Ext.own {K : Fg} {μ μ' : List Addr} {H H' : Hp} (e : Ext K μ H μ' H') {a : Addr} {vs : List V} (h : H a = some (.lst vs)) (n : a ∉ μ) : SqL K H' a vs := .of (e.fr a _ h n)
section
variable {p : Pl} {a b e tg : Expr} {ca cb : CE} {cr : CR} {pos q : Pos}
theorem itl_ok {K : Fg} {μ : List Addr} {H : Hp} {a : Addr} {vs : List V} {ds : List D} (h : SqL K H a vs) (r : RpA K μ H ds vs) : (∀ i, i < ds.length → (Itl K a).go i H ∧ ∀ x H', (Itl K a).yld i H x H' → H' = H ∧ ∃ d, ds[i]? = some d ∧ Rp K μ H d x) ∧ (Itl K a).stop ds.length H := by
  have hl := r.length
  refine ⟨fun i hi => ⟨⟨vs, vs[i], h, List.getElem?_eq_getElem (by omega)⟩, fun x H' y => ⟨y.1, r.getV (y.2 vs h)⟩⟩, vs, h, by omega⟩
theorem itt_ok {K : Fg} {μ : List Addr} {H : Hp} {a : Addr} {vs : List V} {ds : List D} (h : SqT K H a vs) (r : RpA K μ H ds vs) : (∀ i, i < ds.length → (Itt K a).go i H ∧ ∀ x H', (Itt K a).yld i H x H' → H' = H ∧ ∃ d, ds[i]? = some d ∧ Rp K μ H d x) ∧ (Itt K a).stop ds.length H := by
  have hl := r.length
  refine ⟨fun i hi => ⟨⟨vs, vs[i], h, List.getElem?_eq_getElem (by omega)⟩, fun x H' y => ⟨y.1, r.getV (y.2 vs h)⟩⟩, vs, h, by omega⟩
theorem si_r (ha : SdR p e cr) : SdI p tg e (.r cr) := fun X C g => by
  refine ⟨fun pins s σ H R I h => (pi_seqS (ha X C g)).run pins s σ H R I ?_⟩
  obtain ⟨μ, ρ, S, he, hs, h⟩ := h
  unfold evI at h
  refine ⟨μ, ρ, S, he, hs, h.bind.imp fun r S1 μ1 H1 _ e1 s1 h1 v rv => ?_⟩
  obtain ⟨t, et, h1⟩ := h1.may
  have h1 := h1.at s1
  cases r with
  | own ds =>
    cases et
    obtain ⟨a, vs, rfl, k1, k2, k3, _⟩ := rv
    exact .inl ⟨a, rfl, .inl ⟨⟨vs, .of k1⟩, h1 _ fun μ H S x _ _ => itl_ok (x.own k1 k2) (k3.mono x)⟩⟩
  | val d =>
    cases d with
    | str z =>
      cases et
      exact .inr ⟨z, rv, h1 _ fun μ H S x _ _ => its_ok⟩
    | tup ds =>
      cases et
      obtain ⟨a, vs, rfl, k1, k2, _⟩ := rv
      exact .inl ⟨a, rfl, .inr ⟨⟨vs, k1.sq⟩, h1 _ fun μ H S x _ _ => itt_ok (x.tup _ _ k1).sq (k2.mono x)⟩⟩
    | fix ds =>
      cases et
      obtain ⟨a, vs, rfl, k1, k2, _⟩ := rv
      exact .inl ⟨a, rfl, .inl ⟨⟨vs, k1.sq⟩, h1 _ fun μ H S x _ _ => itl_ok (x.fix _ _ k1).sq (k2.mono x)⟩⟩
    | ref i =>
      have et : (sqOf S1 (.val (.ref i))).map (fun ds => (⟨ds, some i⟩ : Itv)) = some t := et
      cases es : sqOf S1 (.val (.ref i)) with
      | none => rw [es] at et; cases et
      | some ds =>
        rw [es] at et
        cases et
        obtain ⟨a, rfl, ea⟩ := rv
        obtain ⟨a', vs, e', k1, k2, _⟩ := sq_rv (r := .val (.ref i)) s1 ⟨a, rfl, ea⟩ es
        cases e'
        have k1 : SqL X.K H1 a vs := k1.elim id fun z => by cases z.2
        refine .inl ⟨a, rfl, .inl ⟨⟨vs, k1⟩, h1 _ fun μ H S x st sl => ?_⟩⟩
        obtain ⟨us, u1, u2, _⟩ := st.lst (show S[i]? = some (.lst ds) from sl) (x.get ea)
        exact itl_ok (SqL.of u1) u2
    | _ => cases et
theorem itr_ok {K : Fg} {μ : List Addr} {H : Hp} (i j : Int) : (∀ k, k < (rgD i j).length → (Itr i (j - i).toNat).go k H ∧ ∀ x H', (Itr i (j - i).toNat).yld k H x H' → H' = H ∧ ∃ d, (rgD i j)[k]? = some d ∧ Rp K μ H d x) ∧ (Itr i (j - i).toNat).stop (rgD i j).length H := by
  rw [rgD_len]
  refine ⟨fun k hk => ⟨hk, fun x H' y => ⟨y.1, .int (i + (k : Nat)), ?_, y.2⟩⟩, Nat.le_refl _⟩
  unfold rgD
  rw [List.getElem?_map, List.getElem?_range hk]
  rfl
theorem si_rg1 {pos2 : Pos} (hb : ("range" : Str) ∈ p.B) (hg : p.sc.names.lookup ("range" : Str) = some .globalImplicit) (hst : notStar a = true) (ha : SdE p a ca) : SdI p tg (.Call (.Name "range" q) [a] [] pos) (.rg (.lit (.int 0)) ca) := fun X C g => by
  refine ⟨fun pins s σ H R I h => (pi_range1 (gl_of g hg) (g.blt _ hb) (pa_cons (ha X C g) pa_nil (star_cons hst [] _)) (star_cons hst [] _)).run pins s σ H R I ?_⟩
  obtain ⟨μ, ρ, S, he, hs, h⟩ := h
  have h0 : evE C (.lit (.int 0)) ρ S = Res.ok (D.int 0) S := by rw [evE]
  unfold evI at h
  rw [h0] at h
  refine ⟨μ, ρ, S, he, hs, Po.imp (Po.bind (r := evE C ca ρ S) h) fun y S1 μ1 H1 _ e1 s1 h1 v rv => ?_⟩
  cases y with
  | int j =>
    obtain ⟨z, h1⟩ := Po.ask (show Po X.K μ1 H1 (ask (bd62 0 ∧ bd62 j) (Res.ok (⟨rgD 0 j, none⟩ : Itv) S1)) _ from h1)
    refine ⟨j, by rw [show v = V.int j from rv], z.2.1, z.2.2, ?_⟩
    have k := h1.at s1 (Itr 0 (j - 0).toNat) fun μ H S _ _ _ => itr_ok 0 j
    rw [Int.sub_zero] at k
    exact k
  | _ => exact (show False from h1).elim
theorem si_rg2 {pos2 : Pos} (hb : ("range" : Str) ∈ p.B) (hg : p.sc.names.lookup ("range" : Str) = some .globalImplicit) (hst : notStar a = true) (hst2 : notStar b = true) (ha : SdE p a ca) (hb' : SdE p b cb) : SdI p tg (.Call (.Name "range" q) [a, b] [] pos) (.rg ca cb) := fun X C g => by
  refine ⟨fun pins s σ H R I h => (pi_range2 (gl_of g hg) (g.blt _ hb) (pa_cons (ha X C g) (pa_cons (hb' X C g) pa_nil (star_cons hst2 [] _)) (star_cons hst [b] _)) (by rw [star_cons hst, star_cons hst2]; rfl) (star_cons hst2 [] _)).run pins s σ H R I ?_⟩
  obtain ⟨μ, ρ, S, he, hs, h⟩ := h
  unfold evI at h
  refine ⟨μ, ρ, S, he, hs, h.bind.imp fun x S1 μ1 H1 _ e1 s1 h1 v rv => ?_⟩
  refine ⟨μ1, ρ, S1, he.mono e1, s1, h1.bind.imp fun y S2 μ2 H2 _ e2 s2 h2 u ru => ?_⟩
  cases x with
  | int i =>
    cases y with
    | int j =>
      obtain ⟨z, h2⟩ := Po.ask (show Po X.K μ2 H2 (ask (bd62 i ∧ bd62 j) (Res.ok (⟨rgD i j, none⟩ : Itv) S2)) _ from h2)
      exact ⟨i, j, by rw [show v = V.int i from rv, show u = V.int j from ru], ⟨z.1.1, z.1.2, z.2.1, z.2.2⟩, h2.at s2 _ fun μ H S _ _ _ => itr_ok i j⟩
    | _ => exact (show False from h2).elim
  | _ => exact (show False from h2).elim
theorem rgdD_len (i j : Int) : (rgdD i j).length = (i - j).toNat := by
  unfold rgdD
  rw [List.length_map, List.length_range]
theorem itrd_ok {K : Fg} {μ : List Addr} {H : Hp} (i j : Int) : (∀ k, k < (rgdD i j).length → (Itc i (-1) (i - j).toNat).go k H ∧ ∀ x H', (Itc i (-1) (i - j).toNat).yld k H x H' → H' = H ∧ ∃ d, (rgdD i j)[k]? = some d ∧ Rp K μ H d x) ∧ (Itc i (-1) (i - j).toNat).stop (rgdD i j).length H := by
  rw [rgdD_len]
  refine ⟨fun k hk => ⟨hk, fun x H' y => ⟨y.1, .int (i - (k : Nat)), ?_, ?_⟩⟩, Nat.le_refl _⟩
  · unfold rgdD
    rw [List.getElem?_map, List.getElem?_range hk]
    rfl
  · show x = V.int (i - (k : Nat))
    rw [y.2]
    congr 1
    omega
theorem si_rgd {pos2 p1 p2 : Pos} {k : Nat} (hb : ("range" : Str) ∈ p.B) (hg : p.sc.names.lookup ("range" : Str) = some .globalImplicit) (hst : notStar a = true) (hst2 : notStar b = true) (ha : SdE p a ca) (hb' : SdE p b cb) : SdI p tg (.Call (.Name "range" q) [a, b, .UnaryOp .USub (.Constant (.int 1) k p1) p2] [] pos) (.rgd ca cb) := fun X C g => by
  refine ⟨fun pins s σ H R I h => (pi_range3 (gl_of g hg) (g.blt _ hb) (pa_cons (ha X C g) (pa_cons (hb' X C g) (pa_cons (pe_un un_neg (pe_int (i := 1))) pa_nil rfl) (star_cons hst2 _ _)) (star_cons hst _ _)) (star_cons hst _ _) (by rw [star_cons hst2]; rfl)).run pins s σ H R I ?_⟩
  obtain ⟨μ, ρ, S, he, hs, h⟩ := h
  unfold evI at h
  refine ⟨μ, ρ, S, he, hs, h.bind.imp fun x S1 μ1 H1 _ e1 s1 h1 v rv => ?_⟩
  refine ⟨μ1, ρ, S1, he.mono e1, s1, h1.bind.imp fun y S2 μ2 H2 _ e2 s2 h2 u ru => ?_⟩
  cases x with
  | int i =>
    cases y with
    | int j =>
      obtain ⟨z, h2⟩ := Po.ask (show Po X.K μ2 H2 (ask (bd62 i ∧ bd62 j) (Res.ok (⟨rgdD i j, none⟩ : Itv) S2)) _ from h2)
      exact ⟨1, rfl, i, j, -1, (i - j).toNat, by rw [show v = V.int i from rv, show u = V.int j from ru], .neg z.1.1 z.1.2 z.2.1 z.2.2, h2.at s2 _ fun μ H S _ _ _ => itrd_ok i j⟩
    | _ => exact (show False from h2).elim
  | _ => exact (show False from h2).elim
end
end PQ

/-! Targets, comprehensions. -/
namespace PQ
open PySem PySem.Spec PyProof.Rows L2
/-! ### targets -/
/-- σ' is σ with some of the slots `is` stored -/
inductive SetsIn (is : List Nat) : Slots → Slots → Prop
  | refl (σ : Slots) : SetsIn is σ σ
  | step {σ σ' : Slots} {i : Nat} {v : V} : i ∈ is → SetsIn is (σ.set i (some v)) σ' → SetsIn is σ σ'
theorem SetsIn.mono {is js : List Nat} (h : ∀ i, i ∈ is → i ∈ js) : ∀ {σ σ' : Slots}, SetsIn is σ σ' → SetsIn js σ σ'
  | _, _, .refl σ => .refl σ
  | _, _, .step m t => .step (h _ m) (SetsIn.mono h t)
theorem wipe_set {i : Nat} {o : Option V} : ∀ {vs : List Nat} {σ : Slots}, i ∈ vs → L2.wipe (σ.set i o) vs = L2.wipe σ vs
  | v :: vs, σ, h => by
    unfold L2.wipe
    by_cases hv : i ∈ vs
    · rw [wipe_set hv]
    · have e : i = v := by
        rcases List.mem_cons.mp h with e | h
        · exact e
        · exact absurd h hv
      subst e
      -- i is stored last, whatever stood there
      have key : ∀ (ws : List Nat) (σ : Slots), L2.wipe (σ.set i o) ws = (L2.wipe σ ws).set i (if i ∈ ws then none else o) ∨ (L2.wipe (σ.set i o) ws).set i none = (L2.wipe σ ws).set i none := by
        intro ws
        induction ws with
        | nil => intro σ; right; unfold L2.wipe; rw [List.set_set]
        | cons w ws ih =>
          intro σ
          right
          unfold L2.wipe
          have ih' : (L2.wipe (σ.set i o) ws).set i none = (L2.wipe σ ws).set i none := by
            rcases ih σ with h | h
            · rw [h, List.set_set]
            · exact h
          by_cases hw : w = i
          · subst hw; rw [List.set_set, List.set_set]; exact ih'
          · rw [List.set_comm _ _ hw, List.set_comm _ _ hw, ih']
      rcases key vs σ with h | h
      · rw [h, List.set_set]
      · exact h
theorem SetsIn.wipe {is : List Nat} : ∀ {σ σ' : Slots}, SetsIn is σ σ' → L2.wipe σ' is = L2.wipe σ is
  | _, _, .refl _ => rfl
  | _, _, .step m t => by rw [SetsIn.wipe t, wipe_set m]
theorem wipe_wipe : ∀ (vs : List Nat) (σ : Slots), (∀ us : List Nat, (∀ u, u ∈ vs → u ∈ us) → L2.wipe (L2.wipe σ vs) us = L2.wipe σ us)
  | [], σ, us, _ => rfl
  | v :: vs, σ, us, h => by
    show L2.wipe ((L2.wipe σ vs).set v none) us = _
    rw [wipe_set (h v List.mem_cons_self)]
    exact wipe_wipe vs σ us fun u hu => h u (List.mem_cons_of_mem _ hu)
def CN.slots : CN → List Nat
  | .nm i => [i]
  | .tup is => is
/-- a target takes a value -/
def tN (K : Fg) (g : CN) : TG := fun v σ H Q => ∃ μ ρ S d ρ', EnvOk K μ H ρ σ ∧ StOk K μ H S ∧ Rp K μ H d v ∧ bindN g d ρ S = some ρ' ∧ ∀ σ', EnvOk K μ H ρ' σ' → SetsIn g.slots σ σ' → Q σ' H
def SdN (p : Pl) (tg : Expr) (g : CN) : Prop := ∀ X C, Good X p C → X.fn = (fun _ => true) ∨ (∀ i ∈ g.slots, ∀ x, p.N[i]? = some x → p.sc.names.lookup x = some .local ∨ X.fn x = true) → PG X tg (tN X.K g)
end PQ
namespace L2
open PySem PySem.Spec PyProof.Rows
theorem PG.pq {X : Cx} {e : Expr} {t t' : TG} (h : PG X e t) (q : ∀ v σ H Q, t' v σ H Q → t v σ H Q) : PG X e t' := ⟨fun pins s σ H v u Q I r hw => h.run pins s σ H v u Q I r (q v σ H Q hw)⟩
theorem PGs.pq {X : Cx} {e : List Expr} {t t' : TGs} (h : PGs X e t) (q : ∀ v σ H Q, t' v σ H Q → t v σ H Q) : PGs X e t' := ⟨fun pins s σ H v u Q I r hw => h.run pins s σ H v u Q I r (q v σ H Q hw)⟩
theorem PS.pq {X : Cx} {e : Stmt} {t t' : TS} (h : PS X e t) (q : ∀ D σ H, t' D σ H → t D σ H) : PS X e t' := ⟨fun pins s σ H D I hw => h.run pins s σ H D I (q D σ H hw)⟩
theorem PSs.pq {X : Cx} {e : List Stmt} {t t' : TS} (h : PSs X e t) (q : ∀ D σ H, t' D σ H → t D σ H) : PSs X e t' := ⟨fun pins s σ H D I hw => h.run pins s σ H D I (q D σ H hw)⟩
/-- an unpacked tuple or list -/
theorem pg_or {X : Cx} {e : Expr} {t u : TG} (h : PG X e t) (h' : PG X e u) : PG X e (fun v σ H Q => t v σ H Q ∨ u v σ H Q) :=
  ⟨fun pins s σ H v w Q I r hw => hw.elim (h.run pins s σ H v w Q I r) (h'.run pins s σ H v w Q I r)⟩
end L2
namespace PQ
open PySem PySem.Spec PyProof.Rows L2
section
variable {p : Pl} {pos q : Pos}
/-- a name's place, where it can be stored -/
def NameAt (p : Pl) (x : Str) (i : Nat) : Prop := p.N[i]? = some x ∧ Loc p.sc x
theorem sn_nm {x : Str} {i : Nat} (h : NameAt p x i) : SdN p (.Name x pos) (.nm i) := fun X C g hf => by
  have hl : X.fn x = true ∨ X.env.scope.names.lookup x = some .local := by
    rcases hf with hf | hf
    · rw [hf]; exact .inl rfl
    · rw [g.sc]; exact (hf i (List.mem_singleton.mpr rfl) x h.1).symm
  refine (pg_name (i := i) g.nd (by rw [g.N]; exact h.1) (by rw [g.sc]; exact h.2) hl).pq fun v σ H Q ⟨μ, ρ, S, d, ρ', he, hs, r, e, k⟩ => ?_
  cases e
  exact k _ (he.set r i) (.step (List.mem_singleton.mpr rfl) (.refl _))
inductive NamesAt (p : Pl) : List Expr → List Nat → Prop
  | nil : NamesAt p [] []
  | cons {x : Str} {i : Nat} {q : Pos} {es : List Expr} {is : List Nat} : NameAt p x i → NamesAt p es is → NamesAt p (.Name x q :: es) (i :: is)
def tNs (K : Fg) (is : List Nat) : TGs := fun vs σ H Q => ∃ μ ρ ds ρ', EnvOk K μ H ρ σ ∧ RpA K μ H ds vs ∧ setAll is ds ρ = some ρ' ∧ ∀ σ', EnvOk K μ H ρ' σ' → SetsIn is σ σ' → Q σ' H
theorem sn_all {es : List Expr} {is : List Nat} (h : NamesAt p es is) {X : Cx} {C : Orc} (g : Good X p C) (hf : X.fn = (fun _ => true) ∨ (∀ i ∈ is, ∀ x, p.N[i]? = some x → p.sc.names.lookup x = some .local ∨ X.fn x = true)) : PGs X es (tNs X.K is) := by
  induction h with
  | nil =>
    refine pgs_nil.pq fun vs σ H Q ⟨μ, ρ, ds, ρ', he, r, e, k⟩ => ?_
    cases ds with
    | nil => cases e; exact ⟨r, k _ he (.refl _)⟩
    | cons d ds => cases e
  | @cons x i q es is hx _ ih =>
    have hl : X.fn x = true ∨ X.env.scope.names.lookup x = some .local := by
      rcases hf with hf | hf
      · rw [hf]; exact .inl rfl
      · rw [g.sc]; exact (hf i List.mem_cons_self x hx.1).symm
    have ih := ih (hf.imp id fun hf j hj => hf j (List.mem_cons_of_mem _ hj))
    refine (pgs_cons (pg_name (i := i) g.nd (by rw [g.N]; exact hx.1) (by rw [g.sc]; exact hx.2) hl) ih rfl).pq fun vs σ H Q ⟨μ, ρ, ds, ρ', he, r, e, k⟩ => ?_
    cases ds with
    | nil => cases e
    | cons d ds =>
      obtain ⟨v, r', e1, h1, h2⟩ := r
      subst e1
      exact ⟨v, r', rfl, μ, ρ.set i (some d), ds, ρ', he.set h1 i, h2, e, fun σ' he' hs' => k σ' he' (.step List.mem_cons_self (hs'.mono fun j hj => List.mem_cons_of_mem _ hj))⟩
theorem setAll_len : ∀ {is : List Nat} {ds : List D} {ρ ρ' : En}, setAll is ds ρ = some ρ' → ds.length = is.length
  | [], [], _, _, _ => rfl
  | [], _ :: _, _, _, h => by cases h
  | _ :: _, [], _, _, h => by cases h
  | i :: is, d :: ds, ρ, ρ', h => by
    have h : setAll is ds (ρ.set i (some d)) = some ρ' := h
    rw [List.length_cons, List.length_cons, setAll_len h]
theorem names_each {es : List Expr} {is : List Nat} (h : NamesAt p es is) (env : Env) : (assignEach es env).length = is.length ∧ (assignEach es env).findIdx? (·.1) = none := by
  induction h with
  | nil => exact ⟨rfl, rfl⟩
  | @cons x i q es is hx _ ih =>
    have e : assignEach (.Name x q :: es) env = (false, assign (.Name x q) env) :: assignEach es env := rfl
    rw [e]
    refine ⟨by rw [List.length_cons, List.length_cons, ih.1], ?_⟩
    rw [List.findIdx?_cons]
    show (if (false : Bool) = true then some 0 else Option.map (fun i => i + 1) (List.findIdx? (fun x => x.1) (assignEach es env))) = none
    rw [if_neg Bool.false_ne_true, ih.2]
    rfl
theorem sn_tup {es : List Expr} {is : List Nat} {k : Nat} (h : NamesAt p es is) : SdN p (.Tuple es k pos) (.tup is) := fun X C g hf => by
  have hs := sn_all h g hf
  obtain ⟨n1, n2⟩ := names_each h X.env
  refine (pg_or (pg_tup (n := is.length) g.calm hs n1 n2) (pg_unl (n := is.length) g.calm hs n1 n2)).pq fun v σ H Q ⟨μ, ρ, S, d, ρ', he, hs, r, e, k⟩ => ?_
  have e : (sqOf S (.val d)).bind (fun ds => setAll is ds ρ) = some ρ' := e
  cases es : sqOf S (.val d) with
  | none => rw [es] at e; cases e
  | some ds =>
    rw [es] at e
    have e : setAll is ds ρ = some ρ' := e
    obtain ⟨a, vs, rfl, h1, h2, _⟩ := sq_rv (r := .val d) hs r es
    have hl : vs.length = is.length := h2.length.symm.trans (setAll_len e)
    rcases h1 with h1 | ⟨h1, _⟩
    · exact .inr ⟨a, vs, rfl, h1, hl, μ, ρ, ds, ρ', he, h2, e, k⟩
    · exact .inl ⟨a, vs, rfl, h1.sq, hl, μ, ρ, ds, ρ', he, h2, e, k⟩
end

/-! ### comprehensions -/
theorem Good.blk {X : Cx} {p : Pl} {C : Orc} (g : Good X p C) (s : Shared) (H : Hp) (scope : Scope) (cl : List (Str × Addr)) (c : Addr) (fp : List Addr) : Good (X.blk s H scope (compEnvC scope cl c X.env) fp) { p with sc := relS scope p.sc } C :=
  ⟨g.calm, g.nd, g.un, PassesOwn.never, g.N, by show relS scope X.env.scope = _; rw [g.sc], g.blt, g.glb, g.fn⟩
section
variable {K : Fg} {μ μ' μ1 : List Addr} {H H' H1 : Hp} {S : Sto}
/-- one's own list is changed -/
theorem own_le {D : Addr} {vs us : List V} (h : H D = some (.lst vs)) : Le K μ H μ (upd H D (.lst us)) := by
  refine ⟨fun _ _ h => h, fun a xs q => ?_, fun a xs q => ?_⟩
  · rcases q with ⟨o, q, c1, c2⟩ | q
    · exact .inl ⟨o, by rw [upd_ne (ne_of q h (by intro z; cases z))]; exact q, c1, c2⟩
    · exact .inr q
  · rcases q with ⟨o, q⟩ | q
    · exact .inl ⟨o, by rw [upd_ne (ne_of q h (by intro z; cases z))]; exact q⟩
    · exact .inr q
theorem own_ext {D : Addr} {o : HO} (e : Ext K μ1 H1 μ H) (h : H1 D = none) (q : Le K μ H μ (upd H D o)) : Ext K μ1 H1 μ (upd H D o) := by
  refine ⟨e.pre, fun a z => ?_, fun a u z m => ?_, fun a xs z => q.tup _ _ (e.tup _ _ z), fun a xs z => q.fix _ _ (e.fix _ _ z)⟩
  · by_cases ha : a = D
    · rw [ha]; exact h
    · rw [upd_ne ha] at z; exact e.alive a z
  · rw [upd_ne (ne_of_none z h)]
    exact e.fr a u z m
theorem own_st {D : Addr} {vs us : List V} (hs : StOk K μ H S) (h : H D = some (.lst vs)) (n : D ∉ μ) : StOk K μ (upd H D (.lst us)) S :=
  ⟨hs.len, hs.nd, fun i o a e1 e2 => (hs.ob i o a e1 e2).le (own_le h) (upd_ne fun z => n (by rw [← z]; exact List.mem_of_getElem? e2))⟩
end
theorem Po.map {α β : Type} {K : Fg} {μ : List Addr} {H : Hp} {r : Res α} {g : α → β} {P : β → Sto → List Addr → Hp → Prop} (h : Po K μ H (r.bind fun a S' => .ok (g a) S') P) : Po K μ H r fun a S' μ' H' => P (g a) S' μ' H' := by
  cases r with
  | ok a S' => exact h
  | exc c fs S' => exact h
  | bad => exact h
theorem loopQ_len {C : Sto → Prop} {f : D → Sto → Res (Option D)} : ∀ {ds : List D} {S : Sto} {r : List D} {S' : Sto}, loopQ C f ds S = .ok r S' → r.length ≤ ds.length
  | [], S, r, S', h => by
    unfold loopQ PQ.ask at h
    split at h
    · cases h; exact Nat.le_refl _
    · cases h
  | d :: ds, S, r, S', h => by
    unfold loopQ PQ.ask at h
    split at h
    · obtain ⟨o, S1, _, h⟩ := bind_ok h
      obtain ⟨r', S2, e2, h⟩ := bind_ok h
      have := loopQ_len e2
      cases h
      cases o with
      | none => exact Nat.le_succ_of_le this
      | some x => exact Nat.succ_le_succ this
    · cases h
/-- a comprehension's loop; tt, te: its test, its element, by what they say -/
theorem comp_imp {K : Fg} {own : List Nat} {g : CN} {fi : En → Sto → Res Itv} {tt : TT} {te : TE} {body : En → Sto → Res (Option D)} {σ : Slots} {H : Hp} {Q : VK}
    (hsub : ∀ i, i ∈ g.slots → i ∈ own)
    (hb : ∀ (σ2 : Slots) (H2 : Hp) (μ : List Addr) (ρ : En) (S : Sto) (Dn : Addr) (acc : List V) (R : V → Hp → Prop) (R0 : Hp → Prop), EnvOk K μ H2 ρ σ2 → StOk K μ H2 S →
      Po K μ H2 (body ρ S) (fun o _ μ' H' => match o with | none => R0 H' | some x => ∀ v, Rp K μ' H' x v → R v H') → tt σ2 H2 fun b H3 => if b = true then te σ2 H3 R else R0 H3)
    (h : tQ K (fun ρ S => (fi ρ S).bind fun t S1 => ask (t.items.length ≤ sizeLine) (loopQ t.still (fun d S2 => may (bindN g d (wipeE ρ own) S2) fun ρ' => body ρ' S2) t.items S1)) σ H Q) :
    tLc (tI K fi) (tN K g) tt te own σ H Q := by
  obtain ⟨μ, ρ, S, he, hs, h⟩ := h
  refine ⟨μ, ρ, S, he, hs, h.bind.imp fun t S1 μ1 H1 _ e1 s1 h1 J hJ => ?_⟩
  obtain ⟨hz, h1⟩ := h1.ask
  intro Dn hD
  have hD0 : H Dn = none := e1.alive _ hD
  generalize hf : (fun d S2 => may (bindN g d (wipeE ρ own) S2) fun ρ' => body ρ' S2) = f at h1
  -- what is wanted of the whole list
  let P : List D → List Addr → Hp → Prop := fun ds μ' H' => ∀ a vs, H1 a = none → H' a = some (.lst vs) → a ∉ μ' → RpA K μ' H' ds vs → ds.length ≤ sizeLine → Q (.ref a) H'
  have h1 : Po K μ1 H1 (loopQ t.still f t.items S1) (fun ds _ μ' H' => P ds μ' H') := h1.imp fun ds S' μ' H' _ _ _ k a vs hn => k a vs (e1.alive _ hn)
  refine ⟨fun i m H => m = t.items.length - i ∧ i ≤ t.items.length ∧ ∃ μ S acc ds, Ext K μ1 H1 μ H ∧ StOk K μ H S ∧ H Dn = some (.lst acc) ∧ Dn ∉ μ ∧ RpA K μ H ds acc ∧ ds.length ≤ i ∧ Po K μ1 H1 (loopQ t.still f (t.items.drop i) S) (fun r _ μ' H' => P (ds ++ r) μ' H'),
    ⟨t.items.length, rfl, Nat.zero_le _, μ1, S1, [], [], s1.fresh hD _, s1.freshOk hD _, upd_same, (own_new (ds := []) (vs := []) s1 rfl hD).1, rfl, Nat.le_refl _, h1⟩, ?_⟩
  rintro i m H2 ⟨rfl, hi, μ2, S2, acc, ds, x2, s2, d2, n2, r2, l2, h2⟩
  by_cases hlt : i < t.items.length
  · -- a turn
    rw [List.drop_eq_getElem_cons hlt] at h2
    unfold loopQ at h2
    obtain ⟨hst, h2⟩ := h2.ask
    obtain ⟨hgo, _⟩ := hJ μ2 H2 S2 x2 s2 hst
    obtain ⟨hgo, hy⟩ := hgo i hlt
    refine .inr ⟨hgo, fun H3 => ∃ μ S acc ds, Ext K μ1 H1 μ H3 ∧ StOk K μ H3 S ∧ H3 Dn = some (.lst acc) ∧ Dn ∉ μ ∧ RpA K μ H3 ds acc ∧ ds.length ≤ i + 1 ∧ Po K μ1 H1 (loopQ t.still f (t.items.drop (i + 1)) S) (fun r _ μ' H' => P (ds ++ r) μ' H'),
      fun H3 q => ⟨t.items.length - (i + 1), by omega, rfl, hlt, q⟩, fun v H3 y => ?_⟩
    obtain ⟨rfl, d, ed, rd⟩ := hy v H3 y
    have ed' : t.items[i] = d := by
      rw [List.getElem?_eq_getElem hlt] at ed
      exact Option.some.inj ed
    rw [ed'] at h2
    -- the target
    cases hfd : f d S2 with
    | exc c fs S' => rw [hfd] at h2; exact h2.elim
    | bad => rw [hfd] at h2; exact h2.elim
    | ok o S3 =>
      rw [hfd] at h2
      have hfd' : may (bindN g d (wipeE ρ own) S2) (fun ρ' => body ρ' S2) = .ok o S3 := by rw [← hfd, ← hf]
      obtain ⟨ρ', eb, hbody⟩ := may_ok hfd'
      refine ⟨μ2, wipeE ρ own, S2, d, ρ', (he.mono (e1.trans x2)).wipe own, s2, rd, eb, fun σ' he' hin => ⟨?_, ?_⟩⟩
      · rw [(hin.mono hsub).wipe]
        exact wipe_wipe own σ own fun _ h => h
      · refine hb σ' H3 μ2 ρ' S2 Dn acc _ _ he' s2 ?_
        rw [hbody]
        intro μ4 H4 x4 s4
        have dn4 : H4 Dn = some (.lst acc) := x4.fr _ _ d2 n2
        have nn4 : Dn ∉ μ4 := x4.notin d2 n2
        have x14 : Ext K μ1 H1 μ4 H4 := x2.trans x4
        cases o with
        | none =>
          exact ⟨μ4, S3, acc, ds, x14, s4, dn4, nn4, r2.mono x4, Nat.le_succ_of_le l2, Po.map (g := fun r => r) h2⟩
        | some z =>
          intro w rw_
          refine ⟨acc, dn4, ?_, μ4, S3, acc ++ [w], ds ++ [z], own_ext x14 hD (own_le dn4), own_st s4 dn4 nn4, upd_same, nn4, ?_, ?_, ?_⟩
          · rw [← r2.length]; omega
          · exact RpA.le (own_le dn4) _ _ ((r2.mono x4).append (.cons rw_ .nil))
          · rw [List.length_append]; exact Nat.succ_le_succ l2
          · refine (Po.map (g := fun r => z :: r) h2).imp fun r S' μ' H' _ _ _ k => ?_
            rw [List.append_assoc]
            exact k
  · -- the end
    have e : i = t.items.length := by omega
    subst e
    rw [List.drop_length] at h2
    unfold loopQ at h2
    obtain ⟨hst, h2⟩ := h2.ask
    obtain ⟨_, hstop⟩ := hJ μ2 H2 S2 x2 s2 hst
    refine .inl ⟨hstop, ?_⟩
    have k : P (ds ++ []) μ2 H2 := h2 μ2 H2 x2 s2
    rw [List.append_nil] at k
    exact k Dn acc hD d2 n2 r2 (Nat.le_trans l2 hz)
section
variable {p : Pl} {elt tg iter c : Expr} {ci : CI} {ce : CE} {ct : CT} {g : CN} {scope : Scope} {own : List (Str × Nat)} {pos : Pos}
/-- the scope within -/
def Pl.within (p : Pl) (scope : Scope) : Pl := { p with sc := relS scope p.sc }
/-- a block's target: its names are stored there -/
def storeB (p : Pl) (scope : Scope) (g : CN) : Bool := g.slots.all fun i => match p.N[i]? with
  | some x => (relS scope p.sc).names.lookup x == some .local || scope.names.lookup x == some .cell
  | none => true
def inOwn (own : List (Str × Nat)) (g : CN) : Bool := g.slots.all fun i => (own.map (·.2)).contains i
theorem storeB_ok {X : Cx} {s : Shared} {H : Hp} {cl : List (Str × Addr)} {a : Addr} {fp : List Addr} (h : storeB p scope g = true) : ∀ i ∈ g.slots, ∀ x, (p.within scope).N[i]? = some x → (p.within scope).sc.names.lookup x = some .local ∨ (X.blk s H scope (compEnvC scope cl a X.env) fp).fn x = true := fun i hi x hx => by
  have h1 := List.all_eq_true.mp h i hi
  have hx : p.N[i]? = some x := hx
  rw [hx] at h1
  have h1 : ((relS scope p.sc).names.lookup x == some .local || scope.names.lookup x == some .cell) = true := h1
  rw [Bool.or_eq_true] at h1
  exact h1.imp (fun z => eq_of_beq z) fun z => z
theorem inOwn_ok (h : inOwn own g = true) : ∀ i, i ∈ g.slots → i ∈ own.map (·.2) := fun i hi => by
  have := List.all_eq_true.mp h i hi
  simpa using this
theorem comp_lc (hi : SdI p tg iter ci) (hg : SdN (p.within scope) tg g) (he : SdE (p.within scope) elt ce) (ho : inOwn own g = true) (K : Fg) (C : Orc) {σ : Slots} {H : Hp} {Q : VK} (h : tQ K (evQ C (.comp (own.map (·.2)) g ci ce)) σ H Q) : tLc (tI K (evI C ci)) (tN K g) tYes (tE K (evE C ce)) (own.map (·.2)) σ H Q := by
  refine comp_imp (body := fun ρ' S2 => (evE C ce ρ' S2).bind fun x S3 => .ok (some x) S3) (inOwn_ok ho) (fun σ2 H2 μ ρ S Dn acc R R0 he hs h => ?_) (by
    obtain ⟨μ, ρ, S, he, hs, h⟩ := h
    unfold evQ at h
    exact ⟨μ, ρ, S, he, hs, h⟩)
  show if true = true then tE K (evE C ce) σ2 H2 R else R0 H2
  rw [if_pos rfl]
  exact ⟨μ, ρ, S, he, hs, Po.map (g := some) h⟩
theorem compIf_lc (hi : SdI p tg iter ci) (hg : SdN (p.within scope) tg g) (he : SdE (p.within scope) elt ce) (ho : inOwn own g = true) (K : Fg) (C : Orc) {σ : Slots} {H : Hp} {Q : VK} (h : tQ K (evQ C (.compIf (own.map (·.2)) g ci ct ce)) σ H Q) : tLc (tI K (evI C ci)) (tN K g) (tT K (evT C ct)) (tE K (evE C ce)) (own.map (·.2)) σ H Q := by
  refine comp_imp (body := fun ρ' S2 => (evT C ct ρ' S2).bind fun k S3 => if k = true then (evE C ce ρ' S3).bind fun x S4 => .ok (some x) S4 else .ok none S3) (inOwn_ok ho) (fun σ2 H2 μ ρ S Dn acc R R0 he hs h => ?_) (by
    obtain ⟨μ, ρ, S, he, hs, h⟩ := h
    unfold evQ at h
    exact ⟨μ, ρ, S, he, hs, h⟩)
  refine ⟨μ, ρ, S, he, hs, h.bind.imp fun k S1 μ1 H1 _ e1 s1 h1 => ?_⟩
  cases k with
  | true =>
    rw [if_pos rfl] at h1 ⊢
    exact ⟨μ1, ρ, S1, he.mono e1, s1, Po.map (g := some) h1⟩
  | false =>
    rw [if_neg Bool.false_ne_true] at h1 ⊢
    exact h1.at s1
section
variable (hi : SdI p tg iter ci) (ok : blkC p.N p.sc scope own = true) (hg : SdN (p.within scope) tg g) (hsb : storeB p scope g = true) (ho : inOwn own g = true) (he : SdE (p.within scope) elt ce) (hs : notSet iter = true)
include hi ok hg hsb ho he hs
theorem sq_comp : SdQ p (.ListComp elt [⟨tg, iter, [], 0⟩] scope pos) (.comp (own.map (·.2)) g ci ce) := fun X C gd =>
  (pe_lc (own := own) gd.calm gd.nd (hi X C gd) (blkOk_by (by rw [gd.N, gd.sc]; exact ok)) (fun s H a cl fp => hg _ C (gd.blk s H scope cl a fp) (.inr (storeB_ok hsb))) (fun _ _ _ _ _ => pts_nil) (fun s H a cl fp => he _ C (gd.blk s H scope cl a fp)) (fun x => no_fold hs _ x)).pq fun σ H Q h => comp_lc hi hg he ho _ _ h
theorem sq_compIf (ht : SdT (p.within scope) c ct) : SdQ p (.ListComp elt [⟨tg, iter, [c], 0⟩] scope pos) (.compIf (own.map (·.2)) g ci ct ce) := fun X C gd =>
  (pe_lc (own := own) gd.calm gd.nd (hi X C gd) (blkOk_by (by rw [gd.N, gd.sc]; exact ok)) (fun s H a cl fp => hg _ C (gd.blk s H scope cl a fp) (.inr (storeB_ok hsb))) (fun s H a cl fp => pts_one (ht _ C (gd.blk s H scope cl a fp))) (fun s H a cl fp => he _ C (gd.blk s H scope cl a fp)) (fun x => no_fold hs _ x)).pq fun σ H Q h => compIf_lc hi hg he ho _ _ h
end
end
end PQ

/-! Statements. -/
namespace PQ
open PySem PySem.Spec PyProof.Rows L2
section
variable {K : Fg} {μ μ' μ1 : List Addr} {H H' H1 : Hp} {S : Sto} {σ : Slots} {ρ : En}
/-- what is wanted behind a flow -/
def flP (K : Fg) (D : Ends) (fl : Fl) (μ : List Addr) (H : Hp) : Prop := match fl with
  | .nx ρ => ∀ σ, EnvOk K μ H ρ σ → D.nx σ H
  | .bk ρ => ∀ σ, EnvOk K μ H ρ σ → D.bk σ H
  | .ct ρ => ∀ σ, EnvOk K μ H ρ σ → D.ct σ H
  | .rt d => ∀ v, Rp K μ H d v → D.rt v H
def tS (K : Fg) (f : En → Sto → Res Fl) : TS := fun D σ H => ∃ μ ρ S, EnvOk K μ H ρ σ ∧ StOk K μ H S ∧ Po K μ H (f ρ S) fun fl _ μ' H' => flP K D fl μ' H'
end
def SdS (p : Pl) (s : Stmt) (c : CS) : Prop := ∀ X C, Good X p C → X.fn = (fun _ => true) → PS X s (tS X.K (evS C c))
def SdSs (p : Pl) (s : List Stmt) (c : CSs) : Prop := ∀ X C, Good X p C → X.fn = (fun _ => true) → PSs X s (tS X.K (evSs C c))
section
variable {p : Pl} {a b e o i tg iter : Expr} {ca cb co ci ce : CE} {ct : CT} {ii : CI} {g : CN} {pos : Pos} {s : Stmt} {ss ts : List Stmt} {cs : CS} {css cts : CSs}
theorem ss_nil : SdSs p [] .nil := fun X C gd _ => pss_nil.pq fun D σ H ⟨μ, ρ, S, he, hs, h⟩ => by
  unfold evSs at h
  exact h.at hs σ he
theorem ss_cons (h1 : SdS p s cs) (h2 : SdSs p ss css) : SdSs p (s :: ss) (.cons cs css) := fun X C gd hf => (pss_cons (h1 X C gd hf) (h2 X C gd hf)).pq fun D σ H ⟨μ, ρ, S, he, hs, h⟩ => by
  unfold evSs at h
  refine ⟨μ, ρ, S, he, hs, h.bind.imp fun fl S1 μ1 H1 _ e1 s1 h1 => ?_⟩
  cases fl with
  | nx ρ1 => exact fun σ1 he1 => ⟨μ1, ρ1, S1, he1, s1, h1⟩
  | bk ρ1 => exact h1.at s1
  | ct ρ1 => exact h1.at s1
  | rt d => exact h1.at s1
theorem s_pass : SdS p (.Pass pos) .pass := fun X C gd _ => ps_pass.pq fun D σ H ⟨μ, ρ, S, he, hs, h⟩ => by
  unfold evS at h
  exact h.at hs σ he
theorem s_brk : SdS p (.Break pos) .brk := fun X C gd _ => ps_break.pq fun D σ H ⟨μ, ρ, S, he, hs, h⟩ => by
  unfold evS at h
  exact h.at hs σ he
theorem s_cont : SdS p (.Continue pos) .cont := fun X C gd _ => ps_continue.pq fun D σ H ⟨μ, ρ, S, he, hs, h⟩ => by
  unfold evS at h
  exact h.at hs σ he
theorem s_ret (ha : SdE p a ca) : SdS p (.Return (some a) pos) (.ret ca) := fun X C gd _ => (ps_ret (ha X C gd)).pq fun D σ H ⟨μ, ρ, S, he, hs, h⟩ => by
  unfold evS at h
  exact ⟨μ, ρ, S, he, hs, h.bind.imp fun d S1 μ1 H1 _ e1 s1 h1 v rv => h1.at s1 v rv⟩
theorem s_ex (hn : notComp a = true) (ha : SdE p a ca) : SdS p (.Expr a pos) (.ex ca) := fun X C gd _ => (ps_expr (ha X C gd) (no_swap hn _ _ _)).pq fun D σ H ⟨μ, ρ, S, he, hs, h⟩ => by
  unfold evS at h
  exact ⟨μ, ρ, S, he, hs, h.bind.imp fun d S1 μ1 H1 _ e1 s1 h1 v rv => h1.at s1 σ (he.mono e1)⟩
theorem s_if (ht : SdT p a ct) (h1 : SdSs p ss css) (h2 : SdSs p ts cts) : SdS p (.If a ss ts pos) (.ite ct css cts) := fun X C gd hf => (ps_if (ht X C gd) (h1 X C gd hf) (h2 X C gd hf)).pq fun D σ H ⟨μ, ρ, S, he, hs, h⟩ => by
  unfold evS at h
  refine ⟨μ, ρ, S, he, hs, h.bind.imp fun k S1 μ1 H1 _ e1 s1 h1 => ?_⟩
  cases k with
  | true => rw [if_pos rfl] at h1 ⊢; exact ⟨μ1, ρ, S1, he.mono e1, s1, h1⟩
  | false => rw [if_neg Bool.false_ne_true] at h1 ⊢; exact ⟨μ1, ρ, S1, he.mono e1, s1, h1⟩
/-- x = e -/
theorem asg_imp {K : Fg} {fe : En → Sto → Res D} {D : Ends} {σ : Slots} {H : Hp} (h : tS K (fun ρ S => (fe ρ S).bind fun d S1 => may (bindN g d ρ S1) fun ρ' => .ok (.nx ρ') S1) D σ H) : tAsg (tE K fe) (tN K g) D σ H := by
  obtain ⟨μ, ρ, S, he, hs, h⟩ := h
  refine ⟨μ, ρ, S, he, hs, h.bind.imp fun d S1 μ1 H1 _ e1 s1 h1 v rv => ?_⟩
  obtain ⟨ρ', eb, h1⟩ := h1.may
  exact ⟨μ1, ρ, S1, d, ρ', he.mono e1, s1, rv, eb, fun σ' he' _ => h1.at s1 σ' he'⟩
theorem s_set (hn : notComp a = true) (hg : SdN p tg g) (ha : SdE p a ca) (hw : ∀ env : Env, env.scope = p.sc → swappedStores [tg] a env = pure none) (h1 : ∀ env, (assignEach [tg] env).map (·.2) = [assign tg env]) : SdS p (.Assign [tg] a pos) (.set g ca) := fun X C gd hf =>
  (ps_asg (ha X C gd) (hg X C gd (.inl hf)) (no_swap hn _ _ _) (hw _ gd.sc) (h1 _)).pq fun D σ H h => asg_imp (by
    obtain ⟨μ, ρ, S, he, hs, h⟩ := h
    unfold evS at h
    exact ⟨μ, ρ, S, he, hs, h⟩)
theorem alloc_imp {K : Fg} {fq : En → Sto → Res (List D)} {σ : Slots} {H : Hp} {Q : VK} (h : tE K (fun ρ S => (fq ρ S).bind fun ds S1 => .ok (.ref S1.length) (S1 ++ [.lst ds])) σ H Q) : tQ K fq σ H Q := by
  obtain ⟨μ, ρ, S, he, hs, h⟩ := h
  refine ⟨μ, ρ, S, he, hs, ?_⟩
  have h : Po K μ H ((fq ρ S).bind fun ds S1 => Res.ok (D.ref S1.length) (S1 ++ [Ob.lst ds])) (fun d _ μ' H' => ∀ v, Rp K μ' H' d v → Q v H') := h
  generalize fq ρ S = r at h
  cases r with
  | ok ds S1 =>
    intro μ1 H1 e1 s1 a vs hn ha hm rvs hz
    refine h (μ1 ++ [a]) H1 (e1.take hn) (s1.take hm ha rvs hz) (.ref a) ⟨a, rfl, ?_⟩
    rw [← s1.len, List.getElem?_append_right (Nat.le_refl _), Nat.sub_self]
    rfl
  | exc c fs S' => exact h
  | bad => exact h
/-- x = [..], where the stores are swapped -/
def swapB (sc : Scope) (y : Str) (scope : Scope) (l1 l2 : Nat) : Bool := (match sc.kind with | .function => true | _ => false) && (sc.names.lookup y == some .local) && (l1 == l2) && !(scope.names.any fun (n, k) => n == y && (k == .local || k == .cell))
theorem sw_ok {env : Env} {elt : Expr} {gs : List Comprehension} {scope : Scope} {cpos py : Pos} {y : Str} {l : Nat} (h : swapB env.scope y scope py.line cpos.line = true) : swapsWith (.ListComp elt gs scope cpos) (some (.Name y py)) l env = pure true := by
  unfold swapB at h
  simp only [Bool.and_eq_true] at h
  obtain ⟨⟨⟨h1, h2⟩, h3⟩, h4⟩ := h
  refine sw_true ?_ (eq_of_beq h2) h3 (by simpa using h4)
  revert h1
  cases env.scope.kind <;> intro h1 <;> first | rfl | cases h1
section
variable {elt c : Expr} {y : Str} {py cpos : Pos} {iy : Nat} {scope : Scope} {own : List (Str × Nat)}
variable (hy : p.N[iy]? = some y) (hyl : p.sc.names.lookup y = some .local) (hsw : swapB p.sc y scope py.line cpos.line = true)
variable (hi : SdI p tg iter ii) (ok : blkC p.N p.sc scope own = true) (hg : SdN (p.within scope) tg g) (hsb : storeB p scope g = true) (ho : inOwn own g = true) (he : SdE (p.within scope) elt ce) (hs : notSet iter = true)
include hy hyl hsw hi ok hg hsb ho he hs
theorem s_setLc : SdS p (.Assign [.Name y py] (.ListComp elt [⟨tg, iter, [], 0⟩] scope cpos) pos) (.set (.nm iy) (.alloc (.comp (own.map (·.2)) g ii ce))) := fun X C gd hf =>
  (ps_setLc (own := own) (i := iy) gd.calm gd.nd (by rw [gd.N]; exact hy) (by rw [gd.sc]; exact hyl) (sw_ok (by rw [gd.sc]; exact hsw)) (hi X C gd) (blkOk_by (by rw [gd.N, gd.sc]; exact ok)) (fun s H a cl fp => hg _ C (gd.blk s H scope cl a fp) (.inr (storeB_ok hsb))) (fun _ _ _ _ _ => pts_nil) (fun s H a cl fp => he _ C (gd.blk s H scope cl a fp)) (fun x => no_fold hs _ x)).pq fun D σ H ⟨μ, ρ, S, he', hs', h⟩ => by
    show tLc _ _ _ _ _ σ H fun x H1 => gName iy x σ H1 D.nx
    refine comp_lc hi hg he ho _ C (alloc_imp ⟨μ, ρ, S, he', hs', ?_⟩)
    unfold evS at h
    refine Po.imp (P := fun d S1 μ1 H1 => Po X.K μ1 H1 (may (bindN (.nm iy) d ρ S1) fun ρ' => .ok (.nx ρ') S1) fun fl _ μ' H' => flP X.K D fl μ' H') ?_ fun d S1 μ1 H1 _ e1 s1 h1 v rv => ?_
    · have := h.bind
      unfold evE at this
      exact this
    · exact (h1.at (a := Fl.nx (ρ.set iy (some d))) s1) _ ((he'.mono e1).set rv iy)
theorem s_setLcIf (ht : SdT (p.within scope) c ct) : SdS p (.Assign [.Name y py] (.ListComp elt [⟨tg, iter, [c], 0⟩] scope cpos) pos) (.set (.nm iy) (.alloc (.compIf (own.map (·.2)) g ii ct ce))) := fun X C gd hf =>
  (ps_setLc (own := own) (i := iy) gd.calm gd.nd (by rw [gd.N]; exact hy) (by rw [gd.sc]; exact hyl) (sw_ok (by rw [gd.sc]; exact hsw)) (hi X C gd) (blkOk_by (by rw [gd.N, gd.sc]; exact ok)) (fun s H a cl fp => hg _ C (gd.blk s H scope cl a fp) (.inr (storeB_ok hsb))) (fun s H a cl fp => pts_one (ht _ C (gd.blk s H scope cl a fp))) (fun s H a cl fp => he _ C (gd.blk s H scope cl a fp)) (fun x => no_fold hs _ x)).pq fun D σ H ⟨μ, ρ, S, he', hs', h⟩ => by
    show tLc _ _ _ _ _ σ H fun x H1 => gName iy x σ H1 D.nx
    refine compIf_lc (ct := ct) hi hg he ho _ C (alloc_imp ⟨μ, ρ, S, he', hs', ?_⟩)
    unfold evS at h
    refine Po.imp (P := fun d S1 μ1 H1 => Po X.K μ1 H1 (may (bindN (.nm iy) d ρ S1) fun ρ' => .ok (.nx ρ') S1) fun fl _ μ' H' => flP X.K D fl μ' H') ?_ fun d S1 μ1 H1 _ e1 s1 h1 v rv => ?_
    · have := h.bind
      unfold evE at this
      exact this
    · exact (h1.at (a := Fl.nx (ρ.set iy (some d))) s1) _ ((he'.mono e1).set rv iy)
end
/-- a, b = x, y -/
theorem s_par {x y : Str} {px py pt : Pos} {kt k2 pt2} {j k : Nat} (hi : p.N[j]? = some x) (hj : p.N[k]? = some y) (hij : j ≠ k) (hx : p.sc.names.lookup x = some .local) (hy : p.sc.names.lookup y = some .local) (hs1 : notStar a = true) (hs2 : notStar b = true) (ha : SdE p a ca) (hb : SdE p b cb)
    (hw : ∀ env : Env, env.scope = p.sc → swappedStores [.Tuple [.Name x px, .Name y py] kt pt] (.Tuple [a, b] k2 pt2) env = pure (some [x, y])) :
    SdS p (.Assign [.Tuple [.Name x px, .Name y py] kt pt] (.Tuple [a, b] k2 pt2) pos) (.par j k ca cb) := fun X C gd hf =>
  (ps_par (i := j) (j := k) gd.calm gd.nd (by rw [gd.N]; exact hi) (by rw [gd.N]; exact hj) hij (by rw [gd.sc]; exact hx) (by rw [gd.sc]; exact hy) (pa_cons (ha X C gd) (pa_cons (hb X C gd) pa_nil (star_cons hs2 [] _)) (star_cons hs1 [b] _)) (hw _ gd.sc) rfl).pq fun D σ H ⟨μ, ρ, S, he, hs, h⟩ => by
    unfold evS at h
    refine ⟨μ, ρ, S, he, hs, h.bind.imp fun d S1 μ1 H1 _ e1 s1 h1 v rv => ?_⟩
    refine ⟨μ1, ρ, S1, he.mono e1, s1, h1.bind.imp fun d2 S2 μ2 H2 _ e2 s2 h2 w rw_ => ?_⟩
    exact ⟨v, w, rfl, h2.at s2 _ (((he.mono (e1.trans e2)).set (rv.mono e2) j).set rw_ k)⟩
/-- o[i] = v of a dict -/
def rSetK : V → V → V → Hp → (Hp → Prop) → Prop := fun o i v H Q => ∃ a H', o = .ref a ∧ DPut H a i v H' ∧ Q H'
theorem set_dic {X : Cx} (hu : X.A.units + 1 < cLine) : PSet X rSetK := by
  intro pins s σ H o i v ov iv u Q I ro ri rv h
  obtain ⟨a, H', rfl, g, q⟩ := h
  cases ro
  exact d_setItem hu I g ri rv fun s' I' => ⟨H', I', q⟩
def rSet2 : V → V → V → Hp → (Hp → Prop) → Prop := fun o i v H Q => rSetK o i v H Q ∨ rSetL o i v H Q
theorem set_any {X : Cx} (hu : X.A.units + 1 < cLine) : PSet X rSet2 := by
  intro pins s σ H o i v ov iv u Q I ro ri rv h
  rcases h with h | h
  · exact set_dic hu pins s σ H o i v ov iv u Q I ro ri rv h
  · exact set_list pins s σ H o i v ov iv u Q I ro ri rv h
/-- o[i] = e -/
theorem set_rp {K : Fg} {μ : List Addr} {H : Hp} {S : Sto} {x y d : D} {v u w : V} {Q : Hp → Prop} (hs : StOk K μ H S) (rx : Rp K μ H x v) (ry : Rp K μ H y u) (rd : Rp K μ H d w) (h : Po K μ H (setD x y d S) fun _ _ μ' H' => Ext K μ H μ' H' → Q H') : rSet2 v u w H Q := by
  unfold setD at h
  split at h
  · obtain ⟨n, ks, a, vs, rfl, rfl, ei, ea, k1, k2, k3, k4, h⟩ := Po.withD hs rx h
    obtain ⟨k, ek, h⟩ := h.may
    obtain ⟨z, h⟩ := h.ite
    refine .inl ⟨a, _, rfl, ?_, h _ _ (hs.putE _ ea) (hs.putO ea (u := .dK (putK vs k w)) ⟨_, upd_same, (k2.put rd k4).mono (hs.putE _ ea), ?_, k4.put k d⟩) (hs.putE _ ea)⟩
    · rw [key_rp ry ek]
      exact DPut.k k1 (by rw [← k2.length]; exact z)
    · have := pD_length ks k d
      omega
  · obtain ⟨n, ds, a, vs, rfl, rfl, ei, ea, k1, k2, k3, h⟩ := Po.withL hs rx h
    cases y with
    | int j =>
      obtain ⟨m, em, h⟩ := Po.may (show Po K μ H (may (ixN ds.length j) fun m => Res.ok () (S.set n (Ob.lst (ds.set m d)))) _ from h)
      obtain ⟨x1, x2⟩ := hs.put ea (k2.set rd m) (by rw [List.length_set]; exact k3)
      exact .inr ⟨a, vs, j, m, rfl, ry, k1, by rw [← k2.length]; exact em, h _ _ x1 x2 x1⟩
    | _ => exact (show False from h).elim
theorem s_sub {sp : Pos} (hn : notSlice i = true) (hc : notComp e = true) (ho : SdE p o co) (hi : SdE p i ci) (he' : SdE p e ce) : SdS p (.Assign [.Subscript o i sp] e pos) (.sub co ci ce) := fun X C gd hf =>
  (ps_asg (he' X C gd) (pg_sub (ho X C gd) (hi X C gd) (set_any (by have := gd.un; omega)) (fun v => sub_store hn _ v)) (by rw [show swapsWithSole [.Subscript o i sp] e pos.line X.env = swapsWith e (some (.Subscript o i sp)) pos.line X.env from by unfold swapsWithSole; rfl]; exact no_swap hc _ _ _) (by cases e <;> rfl) rfl).pq fun D σ H ⟨μ, ρ, S, he, hs, h⟩ => by
    unfold evS at h
    refine ⟨μ, ρ, S, he, hs, h.bind.imp fun d S1 μ1 H1 _ e1 s1 h1 w rd => ?_⟩
    refine ⟨μ1, ρ, S1, he.mono e1, s1, h1.bind.imp fun x S2 μ2 H2 _ e2 s2 h2 v rx => ?_⟩
    refine ⟨μ2, ρ, S2, he.mono (e1.trans e2), s2, h2.bind.imp fun y S3 μ3 H3 _ e3 s3 h3 u ry => ?_⟩
    exact set_rp s3 (rx.mono e3) ry ((rd.mono e2).mono e3) (h3.bind.imp fun _ S4 μ4 H4 _ e4 s4 h4 _ => h4.at s4 σ ((he.mono (e1.trans (e2.trans e3))).mono e4))
/-- an operation in place, by values -/
def ipR : Bop → TIp
  | .add => fun x y H Q => rI0 (fun i j => .int (i + j)) x y H Q ∨ ∃ i j, x = .str i ∧ y = .str j ∧ i.length + j.length ≤ sizeLine ∧ Q (.str (i ++ j)) H
  | .sub => rI0 fun i j => .int (i - j)
  | _ => fun _ _ _ _ => False
def bopOp : Bop → Operator
  | .add => .Add | .sub => .Sub | .mul => .Mult | .fdiv => .FloorDiv | .mod => .Mod | .pow => .Pow | .shl => .LShift | .shr => .RShift | .band => .BitAnd | .bor => .BitOr | .bxor => .BitXor
theorem ip_ok (f : Bop) (X : Cx) : PIp X (bopOp f) (ipR f) := by
  cases f with
  | add => exact iop_add.or iop_add_str
  | sub => exact iop_sub
  | _ => exact fun _ _ _ _ _ _ _ _ _ _ _ _ h => h.elim
theorem aug_rp {f : Bop} {K : Fg} {μ : List Addr} {H : Hp} {S : Sto} {x y : D} {v u : V} {Q : VK} (hs : StOk K μ H S) (rx : Rp K μ H x v) (ry : Rp K μ H y u) (h : Po K μ H (augD f x y S) fun d _ μ' H' => ∀ v, Rp K μ' H' d v → Q v H') : ipR f v u H Q := by
  cases f with
  | add =>
    cases x with
    | int i => cases y with
      | int j => exact .inl ⟨i, j, rx, ry, Po.at (show Po K μ H (Res.ok (D.int (i + j)) S) _ from h) hs _ rfl⟩
      | _ => exact (show False from h).elim
    | str i => cases y with
      | str j =>
        obtain ⟨z, h⟩ := Po.ite (show Po K μ H (if i.length + j.length ≤ sizeLine then Res.ok (D.str (i ++ j)) S else Res.bad) _ from h)
        exact .inr ⟨i, j, rx, ry, z, Po.at h hs _ rfl⟩
      | _ => exact (show False from h).elim
    | _ => exact (show False from h).elim
  | sub =>
    cases x with
    | int i => cases y with
      | int j => exact ⟨i, j, rx, ry, Po.at (show Po K μ H (Res.ok (D.int (i - j)) S) _ from h) hs _ rfl⟩
      | _ => exact (show False from h).elim
    | _ => exact (show False from h).elim
  | _ => exact (show False from by cases x <;> cases y <;> exact h).elim
theorem s_aug {x : Str} {j : Nat} {f : Bop} {px : Pos} (hx : NameAt p x j) (ha : SdE p a ca) : SdS p (.AugAssign (.Name x px) (bopOp f) a pos) (.aug j f ca) := fun X C gd hf =>
  (ps_aug (i := j) gd.nd (by rw [gd.N]; exact hx.1) (by rw [gd.sc]; exact hx.2) (ha X C gd) (ip_ok f X) (.inl (by rw [hf]))).pq fun D σ H ⟨μ, ρ, S, he, hs, h⟩ => by
    unfold evS at h
    obtain ⟨d, ed, h⟩ := h.may
    have e2 : ρ[j]? = some (some d) := by
      cases q : ρ[j]? with
      | none => rw [q] at ed; cases ed
      | some o => rw [q] at ed; exact congrArg some ed
    obtain ⟨v, q1, q2⟩ := he.2 j d e2
    refine ⟨v, q1, μ, ρ, S, he, hs, h.bind.imp fun y S1 μ1 H1 _ e1 s1 h1 u ru => ?_⟩
    exact aug_rp s1 (q2.mono e1) ru (h1.bind.imp fun z S2 μ2 H2 _ e2 s2 h2 w rw_ => h2.at s2 _ (((he.mono e1).mono e2).set rw_ j))
/-- o[i] of a list, by values -/
theorem get_list {X : Cx} : PGet X (rIxL X.K) := by
  intro pins s σ H x y v u Q I rx ry h
  obtain ⟨p, xs, i, z, rfl, rfl, hq, he, q⟩ := h
  cases rx
  obtain ⟨t, rfl⟩ := ry
  obtain ⟨its, r, pl, hz⟩ := I.list hq
  obtain ⟨j, h1, h2, h3, h4, h5⟩ := atI_get he
  obtain ⟨w, ew, rw'⟩ := r.get h2
  have hl := r.length
  have hn := line63
  have fin : EP X pins σ Q w s := ⟨z, H, I, rw', q⟩
  by_cases h0 : 0 ≤ i
  · have hj : i.toNat = j := by
      rw [seqIndex_of h0 h5] at h1
      exact Option.some.inj h1
    exact wpAny_getItem_list pl.isList h0 (by omega) (by rw [hj]; simpa using ew) fin
  · have hj : (i + (its.toArray.size : Int)).toNat = j := by
      rw [seqIndex_neg (by omega) h4] at h1
      rw [List.size_toArray, ← hl]
      exact Option.some.inj h1
    exact wpAny_getItem_list_neg pl.isList (by omega) (by rw [List.size_toArray] <;> omega) (by omega) (by rw [hj]; simpa using ew) fin
/-- o[i] of a list or a dict, by values -/
def rGet2 (K : Fg) : V → V → Hp → VK → Prop := fun x y H Q => rIxD x y H Q ∨ rIxL K x y H Q
theorem get_any {X : Cx} (hu : X.A.units + 1 < cLine) : PGet X (rGet2 X.K) := by
  intro pins s σ H x y v u Q I rx ry h
  rcases h with h | h
  · obtain ⟨a, w, rfl, g, q⟩ := h
    cases rx
    exact d_getItem hu I g ry fun w' s' I' rw' => ⟨w, H, I', rw', q⟩
  · exact get_list pins s σ H x y v u Q I rx ry h
theorem get_rp {K : Fg} {μ : List Addr} {H : Hp} {S : Sto} {x y : D} {v u : V} {Q : VK} (hs : StOk K μ H S) (rx : Rp K μ H x v) (ry : Rp K μ H y u) (h : Po K μ H (getD x y S) fun d _ μ' H' => ∀ v, Rp K μ' H' d v → Q v H') : rGet2 K v u H Q := by
  cases x with
  | ref n =>
    cases y with
    | int i =>
      have h : Po K μ H (match S[n]? with
        | some (Ob.lst ds) => may (atI ds i) fun d => Res.ok d S
        | some (Ob.dic ks) => may (gD ks (.inl i)) fun d => Res.ok d S
        | none => Res.bad) _ := h
      cases ei : S[n]? with
      | none => rw [ei] at h; exact (show False from h).elim
      | some o =>
        rw [ei] at h
        cases o with
        | lst ds =>
          obtain ⟨d, e, h⟩ := Po.may h
          obtain ⟨a, vs, rfl, _, h1, h2, _⟩ := rp_ref rx hs ei
          obtain ⟨w, e1, r1⟩ := rp_at h2 e
          exact .inr ⟨a, vs, i, w, rfl, ry, .of h1, e1, h.at hs w r1⟩
        | dic ks =>
          obtain ⟨d, e, h⟩ := Po.may h
          obtain ⟨a, vs, rfl, _, h1, h2, _⟩ := rp_refD rx hs ei
          obtain ⟨w, e1, r1⟩ := h2.getS e
          refine .inl ⟨a, w, rfl, ?_, h.at hs w r1⟩
          rw [show u = kV (.inl i) from ry, ← e1]
          exact DGet.k h1
    | str z =>
      have h : Po K μ H (match S[n]? with
        | some (Ob.dic ks) => may (gD ks (.inr z)) fun d => Res.ok d S
        | _ => Res.bad) _ := h
      cases ei : S[n]? with
      | none => rw [ei] at h; exact (show False from h).elim
      | some o =>
        rw [ei] at h
        cases o with
        | lst ds => exact (show False from h).elim
        | dic ks =>
          obtain ⟨d, e, h⟩ := Po.may h
          obtain ⟨a, vs, rfl, _, h1, h2, _⟩ := rp_refD rx hs ei
          obtain ⟨w, e1, r1⟩ := h2.getS e
          refine .inl ⟨a, w, rfl, ?_, h.at hs w r1⟩
          rw [show u = kV (.inr z) from ry, ← e1]
          exact DGet.k h1
    | _ => exact (show False from h).elim
  | _ => exact (show False from h).elim
theorem s_augS {f : Bop} {sp : Pos} (hn : notSlice i = true) (ho : SdE p o co) (hi : SdE p i ci) (he' : SdE p e ce) : SdS p (.AugAssign (.Subscript o i sp) (bopOp f) e pos) (.augS co ci f ce) := fun X C gd hf =>
  (ps_augS (ho X C gd) (hi X C gd) (get_any (by have := gd.un; omega)) (he' X C gd) (ip_ok f X) (set_any (by have := gd.un; omega)) (fun ov iv new => aug_store hn ov iv new)).pq fun D σ H ⟨μ, ρ, S, he, hs, h⟩ => by
    unfold evS at h
    refine ⟨μ, ρ, S, he, hs, h.bind.imp fun x S1 μ1 H1 _ e1 s1 h1 v rx => ?_⟩
    refine ⟨μ1, ρ, S1, he.mono e1, s1, h1.bind.imp fun y S2 μ2 H2 _ e2 s2 h2 u ry => ?_⟩
    refine get_rp s2 (rx.mono e2) ry (h2.bind.imp fun x0 S3 μ3 H3 _ e3 s3 h3 w rw_ => ?_)
    refine ⟨μ3, ρ, S3, he.mono (e1.trans (e2.trans e3)), s3, h3.bind.imp fun z S4 μ4 H4 _ e4 s4 h4 t rt => ?_⟩
    refine aug_rp s4 (rw_.mono e4) rt (h4.bind.imp fun z2 S5 μ5 H5 _ e5 s5 h5 t2 rt2 => ?_)
    refine set_rp s5 ((((rx.mono e2).mono e3).mono e4).mono e5) (((ry.mono e3).mono e4).mono e5) rt2 (h5.bind.imp fun _ S6 μ6 H6 _ e6 s6 h6 _ => ?_)
    exact h6.at s6 σ ((he.mono (e1.trans (e2.trans (e3.trans (e4.trans e5))))).mono e6)
/-- what is never reached -/
theorem s_raise {e1 e2 : Option Expr} : SdS p (.Raise e1 e2 pos) .raise := fun X C gd hf => by
  refine ⟨fun pins s σ H D I h => ?_⟩
  obtain ⟨μ, ρ, S, he, hs, h⟩ := h
  unfold evS at h
  exact (show False from h).elim
/-- for -/
theorem s_for (hsn : notSet iter = true) (hi : SdI p tg iter ii) (hg : SdN p tg g) (hb : SdSs p ss css) : SdS p (.For tg iter ss [] pos) (.for g ii css) := fun X C gd hf =>
  (ps_for gd.own gd.calm (hi X C gd) (hg X C gd (.inl hf)) (hb X C gd hf) (fun x => no_fold hsn _ x)).pq fun D σ H ⟨μ, ρ, S, he, hs, h⟩ => by
    unfold evS at h
    refine ⟨μ, ρ, S, he, hs, h.bind.imp fun t S1 μ1 H1 _ e1 s1 h1 J hJ => ?_⟩
    generalize hbf : (fun d ρ1 S2 => may (bindN g d ρ1 S2) fun ρ2 => evSs C css ρ2 S2) = f at h1
    refine ⟨fun i m σ H => m = t.items.length - i ∧ i ≤ t.items.length ∧ ∃ μ ρ S, Ext X.K μ1 H1 μ H ∧ EnvOk X.K μ H ρ σ ∧ StOk X.K μ H S ∧ Po X.K μ H (loopS t.still f (t.items.drop i) ρ S) fun fl _ μ' H' => flP X.K D fl μ' H',
      ⟨t.items.length, rfl, Nat.zero_le _, μ1, ρ, S1, .refl, he.mono e1, s1, h1⟩, ?_⟩
    rintro i m σ2 H2 ⟨rfl, hi, μ2, ρ2, S2, x2, he2, s2, h2⟩
    by_cases hlt : i < t.items.length
    · rw [List.drop_eq_getElem_cons hlt] at h2
      unfold loopS at h2
      obtain ⟨hst, h2⟩ := h2.ask
      obtain ⟨hgo, _⟩ := hJ μ2 H2 S2 x2 s2 hst
      obtain ⟨hgo, hy⟩ := hgo i hlt
      refine .inr ⟨hgo, fun σ3 H3 => ∃ μ ρ S, Ext X.K μ1 H1 μ H3 ∧ EnvOk X.K μ H3 ρ σ3 ∧ StOk X.K μ H3 S ∧ Po X.K μ H3 (loopS t.still f (t.items.drop (i + 1)) ρ S) fun fl _ μ' H' => flP X.K D fl μ' H',
        fun σ3 H3 q => ⟨t.items.length - (i + 1), by omega, rfl, hlt, q⟩, fun v H3 y => ?_⟩
      obtain ⟨rfl, d, ed, rd⟩ := hy v H3 y
      have ed' : t.items[i] = d := by
        rw [List.getElem?_eq_getElem hlt] at ed
        exact Option.some.inj ed
      rw [ed', ← hbf] at h2
      obtain ⟨ρ3, eb, h3⟩ := Po.may (Po.bind h2)
      refine ⟨μ2, ρ2, S2, d, ρ3, he2, s2, rd, eb, fun σ' he' _ => ⟨μ2, ρ3, S2, he', s2, h3.imp fun fl S4 μ4 H4 _ e4 s4 h4 => ?_⟩⟩
      rw [hbf] at h4
      cases fl with
      | nx ρ4 => exact fun σ4 he4 => ⟨μ4, ρ4, S4, x2.trans e4, he4, s4, h4⟩
      | ct ρ4 => exact fun σ4 he4 => ⟨μ4, ρ4, S4, x2.trans e4, he4, s4, h4⟩
      | bk ρ4 => exact h4.at s4
      | rt d => exact h4.at s4
    · have e : i = t.items.length := by omega
      subst e
      rw [List.drop_length] at h2
      unfold loopS at h2
      obtain ⟨hst, h2⟩ := h2.ask
      exact .inl ⟨(hJ μ2 H2 S2 x2 s2 hst).2, h2.at s2 σ2 he2⟩
/-- while -/
theorem s_while (ht : SdT p a ct) (hb : SdSs p ss css) : SdS p (.While a ss [] pos) (.while ct css) := fun X C gd hf =>
  (ps_while gd.own (ht X C gd) (hb X C gd hf)).pq fun D σ H ⟨μ, ρ, S, he, hs, h⟩ => by
    unfold evS at h
    refine ⟨fun m σ H => ∃ μ ρ S, EnvOk X.K μ H ρ σ ∧ StOk X.K μ H S ∧ Po X.K μ H (whileS (evT C ct) (evSs C css) m ρ S) fun fl _ μ' H' => flP X.K D fl μ' H', ⟨turns, μ, ρ, S, he, hs, h⟩, ?_⟩
    rintro m σ2 H2 ⟨μ2, ρ2, S2, he2, s2, h2⟩
    cases m with
    | zero => exact h2.elim
    | succ m =>
      unfold whileS at h2
      refine ⟨μ2, ρ2, S2, he2, s2, h2.bind.imp fun k S3 μ3 H3 _ e3 s3 h3 => ?_⟩
      cases k with
      | true =>
        rw [if_pos rfl] at h3 ⊢
        refine ⟨fun σ4 H4 => ∃ μ ρ S, EnvOk X.K μ H4 ρ σ4 ∧ StOk X.K μ H4 S ∧ Po X.K μ H4 (whileS (evT C ct) (evSs C css) m ρ S) fun fl _ μ' H' => flP X.K D fl μ' H', fun σ4 H4 q => ⟨m, Nat.lt_succ_self m, q⟩, ?_⟩
        refine ⟨μ3, ρ2, S3, he2.mono e3, s3, h3.bind.imp fun fl S4 μ4 H4 _ e4 s4 h4 => ?_⟩
        cases fl with
        | nx ρ4 => exact fun σ4 he4 => ⟨μ4, ρ4, S4, he4, s4, h4⟩
        | ct ρ4 => exact fun σ4 he4 => ⟨μ4, ρ4, S4, he4, s4, h4⟩
        | bk ρ4 => exact h4.at s4
        | rt d => exact h4.at s4
      | false =>
        rw [if_neg Bool.false_ne_true] at h3 ⊢
        exact h3.at s3 σ2 (he2.mono e3)
end
end PQ

/-! From the text to the language, with the proof. -/
namespace PQ
open PySem PySem.Spec PyProof.Rows L2
section
variable {p : Pl} {a b e o i tg iter : Expr} {ca cb co ci ce : CE} {ct : CT} {ii : CI} {g : CN} {pos : Pos}
theorem no_swap2 (t : Expr) (ht : ∀ x q, t ≠ .Name x q) (l : Nat) (env : Env) : swapsWith e (some t) l env = pure false := by
  cases e <;> first | rfl | (cases t <;> first | rfl | exact absurd rfl (ht _ _))
theorem s_sub2 {sp : Pos} (hn : notSlice i = true) (ho : SdE p o co) (hi : SdE p i ci) (he' : SdE p e ce) : SdS p (.Assign [.Subscript o i sp] e pos) (.sub co ci ce) := fun X C gd hf =>
  (ps_asg (he' X C gd) (pg_sub (ho X C gd) (hi X C gd) (set_any (by have := gd.un; omega)) (fun v => sub_store hn _ v)) (by rw [show swapsWithSole [.Subscript o i sp] e pos.line X.env = swapsWith e (some (.Subscript o i sp)) pos.line X.env from by unfold swapsWithSole; rfl]; exact no_swap2 _ (fun x q z => by cases z) _ _) (by cases e <;> rfl) rfl).pq fun D σ H ⟨μ, ρ, S, he, hs, h⟩ => by
    unfold evS at h
    refine ⟨μ, ρ, S, he, hs, h.bind.imp fun d S1 μ1 H1 _ e1 s1 h1 w rd => ?_⟩
    refine ⟨μ1, ρ, S1, he.mono e1, s1, h1.bind.imp fun x S2 μ2 H2 _ e2 s2 h2 v rx => ?_⟩
    refine ⟨μ2, ρ, S2, he.mono (e1.trans e2), s2, h2.bind.imp fun y S3 μ3 H3 _ e3 s3 h3 u ry => ?_⟩
    exact set_rp s3 (rx.mono e3) ry ((rd.mono e2).mono e3) (h3.bind.imp fun _ S4 μ4 H4 _ e4 s4 h4 _ => h4.at s4 σ ((he.mono (e1.trans (e2.trans e3))).mono e4))
/-- (a, b) = .. -/
theorem s_setT {es : List Expr} {is : List Nat} {k : Nat} {q : Pos} (hg : NamesAt p es is) (ha : SdE p a ca) (hw : ∀ env : Env, env.scope = p.sc → swappedStores [.Tuple es k q] a env = pure none) : SdS p (.Assign [.Tuple es k q] a pos) (.set (.tup is) ca) := fun X C gd hf =>
  (ps_asg (ha X C gd) (sn_tup hg X C gd (.inl hf)) (by rw [show swapsWithSole [.Tuple es k q] a pos.line X.env = swapsWith a (some (.Tuple es k q)) pos.line X.env from by unfold swapsWithSole; rfl]; exact no_swap2 _ (fun x q z => by cases z) _ _) (hw _ gd.sc) rfl).pq fun D σ H h => asg_imp (by
    obtain ⟨μ, ρ, S, he, hs, h⟩ := h
    unfold evS at h
    exact ⟨μ, ρ, S, he, hs, h⟩)
/-- x = e, the stores in order -/
theorem s_setN {x : Str} {q : Pos} {j : Nat} (hx : NameAt p x j) (ha : SdE p a ca) (hsw : ∀ env : Env, env.scope = p.sc → swapsWith a (some (.Name x q)) pos.line env = pure false) : SdS p (.Assign [.Name x q] a pos) (.set (.nm j) ca) := fun X C gd hf =>
  (ps_asg (ha X C gd) (sn_nm hx X C gd (.inl hf)) (by rw [show swapsWithSole [.Name x q] a pos.line X.env = swapsWith a (some (.Name x q)) pos.line X.env from by unfold swapsWithSole; rfl]; exact hsw _ gd.sc) (by cases a <;> rfl) rfl).pq fun D σ H h => asg_imp (by
    obtain ⟨μ, ρ, S, he, hs, h⟩ := h
    unfold evS at h
    exact ⟨μ, ρ, S, he, hs, h⟩)
end
def bkS (sc : Scope) : ScopeKind := if sc.kind.isAnnotationScope then .function else sc.kind
def swB (sc : Scope) (value : Expr) (t : Str) (tl : Nat) : Bool := match value with
  | .ListComp _ _ s q => bkS sc == .function && sc.names.lookup t == some .local && tl == q.line && !(s.names.any fun (n, k) => n == t && (k == .local || k == .cell))
  | .SetComp _ _ s q => bkS sc == .function && sc.names.lookup t == some .local && tl == q.line && !(s.names.any fun (n, k) => n == t && (k == .local || k == .cell))
  | .DictComp _ _ _ s q => bkS sc == .function && sc.names.lookup t == some .local && tl == q.line && !(s.names.any fun (n, k) => n == t && (k == .local || k == .cell))
  | _ => false
theorem swB_ok {sc : Scope} {e : Expr} {t : Str} {q : Pos} {l : Nat} (h : swB sc e t q.line = false) (env : Env) (he : env.scope = sc) : swapsWith e (some (.Name t q)) l env = pure false := by
  subst he
  cases e <;> first
    | rfl
    | (show pure (env.blockKind == .function && env.kindOf t == some .local && q.line == _ && _) = _
       exact congrArg pure h)
def swpS (sc : Scope) (ts vs : List Expr) : Option (Option (List Str)) :=
  if (!(ts.length == 2 || ts.length == 3) || vs.length != ts.length || bkS sc != .function) = true then some none
  else if (vs.any fun | .Starred .. => true | _ => false) = true then some none
  else if ((ts.filterMap fun
    | .Name id pos => if (sc.names.lookup id == some .local && pos.line == (ts.head?.map (·.pos.line)).getD 0) = true then some id else none
    | _ => none).length != ts.length || (ts.filterMap fun
    | .Name id pos => if (sc.names.lookup id == some .local && pos.line == (ts.head?.map (·.pos.line)).getD 0) = true then some id else none
    | _ => none).eraseDups.length != (ts.filterMap fun
    | .Name id pos => if (sc.names.lookup id == some .local && pos.line == (ts.head?.map (·.pos.line)).getD 0) = true then some id else none
    | _ => none).length) = true then some none
  else if vs.all (foldedForSure 8) = true then some none
  else if vs.all (constantsAlone 8) = true then none
  else some (some (ts.filterMap fun
    | .Name id pos => if (sc.names.lookup id == some .local && pos.line == (ts.head?.map (·.pos.line)).getD 0) = true then some id else none
    | _ => none))
theorem swpS_ok {sc : Scope} {ts vs : List Expr} {r : Option (List Str)} {k k2 : Nat} {q q2 : Pos} (h : swpS sc ts vs = some r) (env : Env) (he : env.scope = sc) : swappedStores [.Tuple ts k q] (.Tuple vs k2 q2) env = pure r := by
  subst he
  unfold swpS at h
  unfold swappedStores
  show (if (!(ts.length == 2 || ts.length == 3) || vs.length != ts.length || env.blockKind != .function) = true then pure none else _) = _
  split at h
  · rename_i h1
    rw [if_pos (show (!(ts.length == 2 || ts.length == 3) || vs.length != ts.length || env.blockKind != .function) = true from h1)]
    exact congrArg pure (Option.some.inj h)
  · rename_i h1
    rw [if_neg (show ¬ (!(ts.length == 2 || ts.length == 3) || vs.length != ts.length || env.blockKind != .function) = true from h1)]
    show (if (vs.any fun | .Starred .. => true | _ => false) = true then pure none else _) = _
    split at h
    · rename_i h2
      rw [if_pos h2]
      exact congrArg pure (Option.some.inj h)
    · rename_i h2
      rw [if_neg h2]
      split at h
      · rename_i h3
        refine (if_pos ?_).trans (congrArg pure (Option.some.inj h))
        exact h3
      · rename_i h3
        refine (if_neg ?_).trans ?_
        · exact h3
        · split at h
          · rename_i h4
            exact (if_pos h4).trans (congrArg pure (Option.some.inj h))
          · rename_i h4
            refine (if_neg h4).trans ?_
            split at h
            · cases h
            · rename_i h5
              refine (if_neg h5).trans ?_
              exact congrArg pure (Option.some.inj h)
end PQ

/-! The compiler. -/
namespace PQ
open PySem PySem.Spec PyProof.Rows L2
/-- a name's place -/
def idxN (p : Pl) (x : Str) : Option { i : Nat // p.N[i]? = some x } := match p.N.findIdx? (· == x) with
  | some i => if h : p.N[i]? = some x then some ⟨i, h⟩ else none
  | none => none
def nameAt (p : Pl) (x : Str) : Option { i : Nat // NameAt p x i } := match idxN p x with
  | some ⟨i, h⟩ => if h1 : p.sc.names.lookup x = some .local then some ⟨i, h, .inl h1⟩ else if h2 : p.sc.names.lookup x = some .cell then some ⟨i, h, .inr h2⟩ else none
  | none => none
def namesAt (p : Pl) : (es : List Expr) → Option { is : List Nat // NamesAt p es is }
  | [] => some ⟨[], .nil⟩
  | .Name x q :: es => match nameAt p x, namesAt p es with
    | some ⟨i, h⟩, some ⟨is, hs⟩ => some ⟨i :: is, .cons h hs⟩
    | _, _ => none
  | _ => none
def cN (p : Pl) : (tg : Expr) → Option { g : CN // SdN p tg g }
  | .Name x q => match nameAt p x with
    | some ⟨i, h⟩ => some ⟨_, sn_nm h⟩
    | none => none
  | .Tuple es k q => match namesAt p es with
    | some ⟨is, h⟩ => some ⟨_, sn_tup h⟩
    | none => none
  | _ => none
/-- a built-in's name here -/
def isB_ (p : Pl) (x : Str) : Option (PLift (x ∈ p.B ∧ p.sc.names.lookup x = some .globalImplicit)) := if h : x ∈ p.B ∧ p.sc.names.lookup x = some .globalImplicit then some ⟨h⟩ else none
/-- a def's name here -/
def isF_ (p : Pl) (x : Str) : Option { i : Nat // p.T[i]? = some x ∧ p.sc.names.lookup x = some .globalImplicit ∧ (x == ("__debug__" : Str)) = false } := match p.T.findIdx? (· == x) with
  | some i => if h : p.T[i]? = some x ∧ p.sc.names.lookup x = some .globalImplicit ∧ (x == ("__debug__" : Str)) = false then some ⟨i, h⟩ else none
  | none => none
def copOf : (op : CmpOp) → Option { o : Cop // copOp o = op }
  | .Eq => some ⟨.eq, rfl⟩
  | .NotEq => some ⟨.ne, rfl⟩
  | .Lt => some ⟨.lt, rfl⟩
  | .LtE => some ⟨.le, rfl⟩
  | .Gt => some ⟨.gt, rfl⟩
  | .GtE => some ⟨.ge, rfl⟩
  | _ => none
def bopOf : (op : Operator) → Option { o : Bop // bopOp o = op }
  | .Add => some ⟨.add, rfl⟩
  | .Sub => some ⟨.sub, rfl⟩
  | _ => none
/-- a list by its look -/
def looksList : Nat → Expr → Bool
  | _, .List .. => true
  | _, .ListComp .. => true
  | _, .Call (.Name f _) _ _ _ => f == ("list" : Str) || f == ("sorted" : Str)
  | n + 1, .BinOp a .Add b _ => looksList n a || looksList n b
  | _, .Subscript _ (.Slice none none (some _) _) _ => true
  | _, _ => false
def ownOf (p : Pl) (scope : Scope) : List (Str × Nat) := scope.names.filterMap fun (x, k) => match k with
  | .local => (p.N.findIdx? (· == x)).map fun i => (x, i)
  | .cell => (p.N.findIdx? (· == x)).map fun i => (x, i)
  | _ => none
def glbIn (x : Str) : (l : List (Str × Gv)) → Option { g : Gv // (x, g) ∈ l }
  | [] => none
  | (y, g) :: r => if h : y = x then some ⟨g, by subst h; exact List.mem_cons_self⟩ else (match glbIn x r with
    | some ⟨g, h⟩ => some ⟨g, List.mem_cons_of_mem _ h⟩
    | none => none)
abbrev GlbOk (p : Pl) (x : Str) : Prop := p.sc.names.lookup x = some .globalImplicit ∧ (x == ("__debug__" : Str)) = false
abbrev VisOk (p : Pl) (x : Str) : Prop := (p.sc.names.lookup x = some .local ∨ p.sc.names.lookup x = some .cell ∨ p.sc.names.lookup x = some .free) ∧ (x == ("__debug__" : Str)) = false ∧ (x == ("__classdict__" : Str)) = false
mutual
def cE : Nat → (p : Pl) → (e : Expr) → Option { c : CE // SdE p e c }
  | 0, _, _ => none
  | n + 1, p, e => match cQ n p e with
    | some ⟨q, h⟩ => some ⟨_, sd_alloc h⟩
    | none => match e with
      | .Name x q => match idxN p x with
        | some ⟨i, h⟩ => if h2 : VisOk p x then some ⟨_, sd_var h h2.1 h2.2.1 h2.2.2⟩ else none
        | none => (match glbIn x p.G with
          | some ⟨.con d, h⟩ => if h2 : GlbOk p x then some ⟨_, sd_con h h2.1 h2.2⟩ else none
          | _ => none)
      | .Constant (.int i) j q => some ⟨.lit (.int i), sd_int⟩
      | .Constant (.str i) j q => some ⟨.lit (.str i), sd_str⟩
      | .Constant (.bool i) j q => some ⟨.lit (.bl i), sd_bl⟩
      | .Constant .none j q => some ⟨.lit .non, sd_non⟩
      | .Tuple es k q => match cA n p es with
        | some ⟨c, h⟩ => some ⟨_, sd_tup h⟩
        | none => none
      | .BinOp a op b q => match cE n p a, cE n p b with
        | some ⟨ca, ha⟩, some ⟨cb, hb⟩ => (match op with
          | .Add => some ⟨_, sd_add ha hb⟩
          | .Sub => some ⟨_, sd_sub ha hb⟩
          | .Mult => some ⟨_, sd_mul ha hb⟩
          | .FloorDiv => some ⟨_, sd_fdiv ha hb⟩
          | .Mod => some ⟨_, sd_mod ha hb⟩
          | .Pow => some ⟨_, sd_pow ha hb⟩
          | .LShift => some ⟨_, sd_shl ha hb⟩
          | .RShift => some ⟨_, sd_shr ha hb⟩
          | .BitAnd => some ⟨_, sd_band ha hb⟩
          | .BitOr => some ⟨_, sd_bor ha hb⟩
          | .BitXor => some ⟨_, sd_bxor ha hb⟩
          | _ => none)
        | _, _ => none
      | .UnaryOp .USub a q => match cE n p a with
        | some ⟨ca, ha⟩ => some ⟨_, sd_neg ha⟩
        | none => none
      | .UnaryOp .Not a q => match cE n p a with
        | some ⟨ca, ha⟩ => some ⟨_, sd_not ha⟩
        | none => none
      | .BoolOp op [a] q => match cE n p a with
        | some ⟨ca, ha⟩ => some ⟨ca, sd_one ha⟩
        | none => none
      | .BoolOp .And (a :: b :: r) q => match cE n p a, cE n p (.BoolOp .And (b :: r) q) with
        | some ⟨ca, ha⟩, some ⟨cb, hb⟩ => some ⟨_, sd_and ha hb⟩
        | _, _ => none
      | .BoolOp .Or (a :: b :: r) q => match cE n p a, cE n p (.BoolOp .Or (b :: r) q) with
        | some ⟨ca, ha⟩, some ⟨cb, hb⟩ => some ⟨_, sd_or ha hb⟩
        | _, _ => none
      | .IfExp t a b q => match cT n p t, cE n p a, cE n p b with
        | some ⟨ct, ht⟩, some ⟨ca, ha⟩, some ⟨cb, hb⟩ => some ⟨_, sd_ife ht ha hb⟩
        | _, _, _ => none
      | .Compare a ops bs q => match cC n p (.Compare a ops bs q) with
        | some ⟨c, h⟩ => some ⟨c, h.1.val⟩
        | none => none
      | .Subscript a (.Slice lo hi none p2) q => match cE n p a, cO n p lo, cO n p hi with
        | some ⟨ca, ha⟩, some ⟨cl, hl⟩, some ⟨ch, hh⟩ => some ⟨_, sd_slc ha hl hh⟩
        | _, _, _ => none
      | .Subscript a b q => if hn : notSlice b = true then (match cE n p a, cE n p b with
        | some ⟨ca, ha⟩, some ⟨cb, hb⟩ => some ⟨_, sd_idx hn ha hb⟩
        | _, _ => none) else none
      | .Dict [] [] q => some ⟨_, sd_dnew⟩
      | .Call (.Attribute a m ap) [k, x] [] q => if hc : m = "get" ∧ notCall a = true ∧ (ap.endLine == q.line) = true ∧ notStar k = true ∧ notStar x = true then (match cE n p a, cE n p k, cE n p x with
        | some ⟨ca, ha⟩, some ⟨ck, hk⟩, some ⟨cx, hx⟩ => some ⟨.dget ca ck cx, by
          obtain ⟨h1, h2, h3, h4, h5⟩ := hc
          subst h1
          exact sd_dget h2 h3 h4 h5 ha hk hx⟩
        | _, _, _ => none) else none
      | .Call (.Attribute a m ap) [] [] q => if hc : notCall a = true ∧ (ap.endLine == q.line) = true then (match cE n p a with
        | some ⟨ca, ha⟩ => if h : m = "pop" then some ⟨.pop ca, by subst h; exact sd_pop hc.1 hc.2 ha⟩ else none
        | none => none) else none
      | .Call (.Attribute (.Constant (.str s) j cp) m ap) [e] [] q => if hc : m = "join" ∧ (ap.endLine == q.line) = true ∧ notStar e = true then (match cR n p e with
        | some ⟨cr, hr⟩ => some ⟨.join s cr, by
          obtain ⟨h1, h2, h3⟩ := hc
          subst h1
          exact sd_join h2 h3 hr⟩
        | none => none) else none
      | .Call (.Attribute a m ap) [e] [] q => if hc : notCall a = true ∧ (ap.endLine == q.line) = true ∧ notStar e = true then (match cE n p a with
        | some ⟨ca, ha⟩ =>
          if h : m = "extend" then (match cR n p e with
            | some ⟨cr, hr⟩ => some ⟨.ext ca cr, by subst h; exact sd_ext hc.1 hc.2.1 hc.2.2 ha hr⟩
            | none => none)
          else (match cE n p e with
            | some ⟨ce, he⟩ =>
              if h : m = "append" then some ⟨.app ca ce, by subst h; exact sd_app hc.1 hc.2.1 hc.2.2 ha he⟩
              else if h : m = "pop" then some ⟨.popAt ca ce, by subst h; exact sd_popAt hc.1 hc.2.1 hc.2.2 ha he⟩
              else if h : m = "index" then some ⟨.tix ca ce, by subst h; exact sd_tix hc.1 hc.2.1 hc.2.2 ha he⟩
              else none
            | none => none)
        | none => none) else none
      | .Call (.Name f q2) es [] q => match isF_ p f with
        | some ⟨i, hf⟩ => (match es with
          | [] => some ⟨_, sd_call0 hf.1 hf.2.1 hf.2.2⟩
          | e :: es => if hs : notStar e = true ∧ es.all notStar = true then (match cA n p (e :: es) with
            | some ⟨c, h⟩ => some ⟨_, sd_call hf.1 hf.2.1 hf.2.2 hs.1 hs.2 h⟩
            | none => none) else none)
        | none => match isB_ p f with
          | some ⟨hb⟩ => (match es with
            | [e] => if hs : notStar e = true then
                (if h : f = "int" then (match cE n p e with
                  | some ⟨c, hc⟩ => some ⟨.fn1 .int c, by subst h; exact sd_intT hb.1 hb.2 hs hc⟩
                  | none => none)
                else if h : f = "abs" then (match cE n p e with
                  | some ⟨c, hc⟩ => some ⟨.fn1 .abs c, by subst h; exact sd_abs hb.1 hb.2 hs hc⟩
                  | none => none)
                else if h : f = "str" then (match cE n p e with
                  | some ⟨c, hc⟩ => some ⟨.fn1 .str c, by subst h; exact sd_strT hb.1 hb.2 hs hc⟩
                  | none => none)
                else (match cR n p e with
                  | some ⟨c, hc⟩ =>
                    if h : f = "len" then some ⟨.agg .len c, by subst h; exact sd_len hb.1 hb.2 hs hc⟩
                    else if h : f = "tuple" then some ⟨.agg .tuple c, by subst h; exact sd_tuple hb.1 hb.2 hs hc⟩
                    else if h : f = "sum" then some ⟨.agg .sum c, by subst h; exact sd_sum hb.1 hb.2 hs hc⟩
                    else if h : f = "all" then some ⟨.agg .all c, by subst h; exact sd_all hb.1 hb.2 hs hc⟩
                    else if h : f = "any" then some ⟨.agg .any c, by subst h; exact sd_any hb.1 hb.2 hs hc⟩
                    else if h : f = "max" then some ⟨.agg .max c, by subst h; exact sd_max hb.1 hb.2 hs hc⟩
                    else if h : f = "min" then some ⟨.agg .min c, by subst h; exact sd_min hb.1 hb.2 hs hc⟩
                    else none
                  | none => none)) else none
            | [a, b] => if hs : notStar a = true ∧ notStar b = true then
                (if h : f = "isinstance" then (match b with
                  | .Name T q3 => (match isB_ p T, cE n p a with
                    | some ⟨hT⟩, some ⟨ca, ha⟩ =>
                      if h2 : T = "int" then some ⟨.isi ca .int, by subst h h2; exact sd_isi (t := .int) hb.1 hb.2 hT.1 hT.2 (by decide +kernel) (by decide) (by decide) hs.1 ha⟩
                      else if h2 : T = "bool" then some ⟨.isi ca .bool, by subst h h2; exact sd_isi (t := .bool) hb.1 hb.2 hT.1 hT.2 (by decide +kernel) (by decide) (by decide) hs.1 ha⟩
                      else if h2 : T = "str" then some ⟨.isi ca .str, by subst h h2; exact sd_isi (t := .str) hb.1 hb.2 hT.1 hT.2 (by decide +kernel) (by decide) (by decide) hs.1 ha⟩
                      else if h2 : T = "tuple" then some ⟨.isi ca .tuple, by subst h h2; exact sd_isi (t := .tuple) hb.1 hb.2 hT.1 hT.2 (by decide +kernel) (by decide) (by decide) hs.1 ha⟩
                      else none
                    | _, _ => none)
                  | _ => none)
                else (match cE n p a, cE n p b with
                  | some ⟨ca, ha⟩, some ⟨cb, hb'⟩ =>
                    if h : f = "min" then some ⟨.fn2 .min ca cb, by subst h; exact sd_min2 hb.1 hb.2 hs.1 hs.2 ha hb'⟩
                    else if h : f = "max" then some ⟨.fn2 .max ca cb, by subst h; exact sd_max2 hb.1 hb.2 hs.1 hs.2 ha hb'⟩
                    else none
                  | _, _ => none)) else none
            | _ => none)
          | none => (match es with
            | [a, b] => (match glbIn f p.G with
              | some ⟨.fn id, hm⟩ => if hs : (notStar a = true ∧ notStar b = true) ∧ GlbOk p f then (if h : id = "math.gcd" then (match cE n p a, cE n p b with
                | some ⟨ca, ha⟩, some ⟨cb, hb'⟩ => some ⟨.fn2 .gcd ca cb, by subst h; exact sd_gcd hm hs.2.1 hs.2.2 hs.1.1 hs.1.2 ha hb'⟩
                | _, _ => none) else none) else none
              | _ => none)
            | _ => none)
      | _ => none
def cO : Nat → (p : Pl) → (e : Option Expr) → Option { c : CO // SdO p e c }
  | 0, _, _ => none
  | n + 1, p, none => some ⟨.none, so_none⟩
  | n + 1, p, some e => match cE n p e with
    | some ⟨c, h⟩ => some ⟨_, so_some h⟩
    | none => none
def cA : Nat → (p : Pl) → (es : List Expr) → Option { c : CEs // SdA p es c }
  | 0, _, _ => none
  | n + 1, p, [] => some ⟨.nil, sa_nil⟩
  | n + 1, p, e :: es => if hs : notStar e = true then (match cE n p e, cA n p es with
    | some ⟨c, h⟩, some ⟨cs, hs'⟩ => some ⟨_, sa_cons h hs' (fun env => star_cons hs es env)⟩
    | _, _ => none) else none
def cR : Nat → (p : Pl) → (e : Expr) → Option { c : CR // SdR p e c }
  | 0, _, _ => none
  | n + 1, p, e => match cQ n p e with
    | some ⟨q, h⟩ => some ⟨_, sr_q h⟩
    | none => match cE n p e with
      | some ⟨c, h⟩ => some ⟨_, sr_e h⟩
      | none => none
def cQ : Nat → (p : Pl) → (e : Expr) → Option { c : CQ // SdQ p e c }
  | 0, _, _ => none
  | n + 1, p, e => match e with
    | .List es q => match cA n p es with
      | some ⟨c, h⟩ => some ⟨_, sq_disp h⟩
      | none => none
    | .ListComp elt [⟨tg, iter, [], 0⟩] scope q =>
      if hs : blkC p.N p.sc scope (ownOf p scope) = true ∧ notSet iter = true then (match cI n p tg iter, cN (p.within scope) tg, cE n (p.within scope) elt with
        | some ⟨ii, hi⟩, some ⟨g, hg⟩, some ⟨ce, he⟩ => if h : storeB p scope g = true ∧ inOwn (ownOf p scope) g = true then some ⟨_, sq_comp hi hs.1 hg h.1 h.2 he hs.2⟩ else none
        | _, _, _ => none) else none
    | .ListComp elt [⟨tg, iter, [c], 0⟩] scope q =>
      if hs : blkC p.N p.sc scope (ownOf p scope) = true ∧ notSet iter = true then (match cI n p tg iter, cN (p.within scope) tg, cE n (p.within scope) elt, cT n (p.within scope) c with
        | some ⟨ii, hi⟩, some ⟨g, hg⟩, some ⟨ce, he⟩, some ⟨ct, ht⟩ => if h : storeB p scope g = true ∧ inOwn (ownOf p scope) g = true then some ⟨_, sq_compIf hi hs.1 hg h.1 h.2 he hs.2 ht⟩ else none
        | _, _, _, _ => none) else none
    | .BinOp a .Add b q => if looksList 20 a || looksList 20 b then (match cR n p a, cR n p b with
      | some ⟨ca, ha⟩, some ⟨cb, hb⟩ => some ⟨_, sq_cat ha hb⟩
      | _, _ => none) else none
    | .Subscript a (.Slice none none (some (.UnaryOp .USub (.Constant (.int 1) k p1) p2)) p3) q => match cR n p a with
      | some ⟨ca, ha⟩ => some ⟨_, sq_rev ha⟩
      | none => none
    | .Call (.Name f q2) [.Call (.Name f2 q3) es2 [] q4] [] q => match isB_ p f, isB_ p f2 with
      | some ⟨hb⟩, some ⟨hb2⟩ => if h : f = "list" ∧ f2 = "range" then (match es2 with
          | [a] => if hs : notStar a = true then (match cE n p a with
            | some ⟨ca, ha⟩ => some ⟨.listRg (.lit (.int 0)) ca, by obtain ⟨h1, h2⟩ := h; subst h1 h2; exact sq_listRg1 hb.1 hb.2 hb2.1 hb2.2 hs ha⟩
            | none => none) else none
          | [a, b] => if hs : notStar a = true ∧ notStar b = true then (match cE n p a, cE n p b with
            | some ⟨ca, ha⟩, some ⟨cb, hb'⟩ => some ⟨.listRg ca cb, by obtain ⟨h1, h2⟩ := h; subst h1 h2; exact sq_listRg2 hb.1 hb.2 hb2.1 hb2.2 hs.1 hs.2 ha hb'⟩
            | _, _ => none) else none
          | _ => none)
        else if hf : f = "list" ∨ f = "sorted" then (match cR n p (.Call (.Name f2 q3) es2 [] q4) with
          | some ⟨c, hc⟩ =>
            if h : f = "list" then some ⟨.list c, by subst h; exact sq_list hb.1 hb.2 rfl hc⟩
            else if h : f = "sorted" then some ⟨.sorted c, by subst h; exact sq_sorted hb.1 hb.2 rfl hc⟩
            else none
          | none => none) else none
      | some ⟨hb⟩, none => if hf : f = "list" ∨ f = "sorted" then (match cR n p (.Call (.Name f2 q3) es2 [] q4) with
          | some ⟨c, hc⟩ =>
            if h : f = "list" then some ⟨.list c, by subst h; exact sq_list hb.1 hb.2 rfl hc⟩
            else if h : f = "sorted" then some ⟨.sorted c, by subst h; exact sq_sorted hb.1 hb.2 rfl hc⟩
            else none
          | none => none) else none
      | _, _ => none
    | .Call (.Name f q2) [e] [] q => match isB_ p f with
      | some ⟨hb⟩ => if hs : notStar e = true ∧ (f = "list" ∨ f = "sorted") then (match cR n p e with
          | some ⟨c, hc⟩ =>
            if h : f = "list" then some ⟨.list c, by subst h; exact sq_list hb.1 hb.2 hs.1 hc⟩
            else if h : f = "sorted" then some ⟨.sorted c, by subst h; exact sq_sorted hb.1 hb.2 hs.1 hc⟩
            else none
          | none => none) else none
      | none => none
    | _ => none
def cI : Nat → (p : Pl) → (tg e : Expr) → Option { c : CI // SdI p tg e c }
  | 0, _, _, _ => none
  | n + 1, p, tg, e => match e with
    | .Call (.Name f q) [a] [] pos => (match isB_ p f with
      | some ⟨hb⟩ => if h : f = "range" ∧ notStar a = true then (match cE n p a with
          | some ⟨ca, ha⟩ => some ⟨.rg (.lit (.int 0)) ca, by obtain ⟨h1, h2⟩ := h; subst h1; exact si_rg1 (pos2 := pos) hb.1 hb.2 h2 ha⟩
          | none => none)
        else (match cR n p (.Call (.Name f q) [a] [] pos) with
          | some ⟨c, h⟩ => some ⟨_, si_r h⟩
          | none => none)
      | none => (match cR n p (.Call (.Name f q) [a] [] pos) with
          | some ⟨c, h⟩ => some ⟨_, si_r h⟩
          | none => none))
    | .Call (.Name f q) [a, b, .UnaryOp .USub (.Constant (.int 1) _ p1) p2] [] pos => (match isB_ p f with
      | some ⟨hb⟩ => if h : f = "range" ∧ notStar a = true ∧ notStar b = true then (match cE n p a, cE n p b with
          | some ⟨ca, ha⟩, some ⟨cb, hb'⟩ => some ⟨.rgd ca cb, by obtain ⟨h1, h2, h3⟩ := h; subst h1; exact si_rgd (pos2 := pos) hb.1 hb.2 h2 h3 ha hb'⟩
          | _, _ => none)
        else none
      | none => (match cR n p (.Call (.Name f q) [a, b, .UnaryOp .USub (.Constant (.int 1) _ p1) p2] [] pos) with
          | some ⟨c, h⟩ => some ⟨_, si_r h⟩
          | none => none))
    | .Call (.Name f q) [a, b] [] pos => (match isB_ p f with
      | some ⟨hb⟩ => if h : f = "range" ∧ notStar a = true ∧ notStar b = true then (match cE n p a, cE n p b with
          | some ⟨ca, ha⟩, some ⟨cb, hb'⟩ => some ⟨.rg ca cb, by obtain ⟨h1, h2, h3⟩ := h; subst h1; exact si_rg2 (pos2 := pos) hb.1 hb.2 h2 h3 ha hb'⟩
          | _, _ => none)
        else (match cR n p (.Call (.Name f q) [a, b] [] pos) with
          | some ⟨c, h⟩ => some ⟨_, si_r h⟩
          | none => none)
      | none => (match cR n p (.Call (.Name f q) [a, b] [] pos) with
          | some ⟨c, h⟩ => some ⟨_, si_r h⟩
          | none => none))
    | e => (match cR n p e with
      | some ⟨c, h⟩ => some ⟨_, si_r h⟩
      | none => none)
def cC : Nat → (p : Pl) → (e : Expr) → Option { c : CE // SdC p e c ∧ ∀ C ρ S d S', evE C c ρ S = .ok d S' → isB d = true }
  | 0, _, _ => none
  | n + 1, p, e => match e with
    | .Compare a [.Is] [.Constant .none j q2] q => (match cE n p a with
      | some ⟨ca, ha⟩ => some ⟨_, sc_isN ha, b_isN⟩
      | none => none)
    | .Compare a [.IsNot] [.Constant .none j q2] q => (match cE n p a with
      | some ⟨ca, ha⟩ => some ⟨_, sc_notN ha, b_notN⟩
      | none => none)
    | .Compare a [.In] [b] q => if hm : behindInMarks .In b = false then (match cE n p a, cR n p b with
      | some ⟨ca, ha⟩, some ⟨cb, hb⟩ => some ⟨_, sc_in hm ha hb, b_in⟩
      | _, _ => none) else none
    | .Compare a [.NotIn] [b] q => if hm : behindInMarks .NotIn b = false then (match cE n p a, cR n p b with
      | some ⟨ca, ha⟩, some ⟨cb, hb⟩ => some ⟨_, sc_notIn hm ha hb, b_notIn⟩
      | _, _ => none) else none
    | .Compare a [op] [b] q => (match copOf op, cE n p a, cE n p b with
      | some ⟨o, ho⟩, some ⟨ca, ha⟩, some ⟨cb, hb⟩ => some ⟨.cmp o ca cb, by subst ho; exact sc_cmp o ha hb, b_cmp⟩
      | _, _, _ => none)
    | .Compare a [op, op2] [b, c] q => (match copOf op, copOf op2, cE n p a, cE n p b, cE n p c with
      | some ⟨o, ho⟩, some ⟨o2, ho2⟩, some ⟨ca, ha⟩, some ⟨cb, hb⟩, some ⟨cc, hc⟩ => if hm : lastMarks [op, op2] [b, c] = false then some ⟨.chn o o2 ca cb cc, by subst ho ho2; exact sc_chn o o2 hm ha hb hc, b_chn⟩ else none
      | _, _, _, _, _ => none)
    | _ => none
def cT : Nat → (p : Pl) → (e : Expr) → Option { c : CT // SdT p e c }
  | 0, _, _ => none
  | n + 1, p, e => match e with
    | .UnaryOp .Not a q => (match cT n p a with
      | some ⟨c, h⟩ => some ⟨_, st_not h⟩
      | none => none)
    | .BoolOp op vs q => (match cW n p (.BoolOp op vs q) with
      | some ⟨c, h⟩ => some ⟨c, st_w h⟩
      | none => none)
    | .Compare a ops bs q => (match cC n p (.Compare a ops bs q) with
      | some ⟨c, h⟩ => some ⟨.v c, h.1.test h.2⟩
      | none => none)
    | e => if hp : plainTest e = true then (match cE n p e with
      | some ⟨c, h⟩ => some ⟨_, st_plain hp h⟩
      | none => none) else none
def cW : Nat → (p : Pl) → (e : Expr) → Option { c : CT // SdW p e c }
  | 0, _, _ => none
  | n + 1, p, e => match e with
    | .BoolOp .And [a] q => (match cT n p a with
      | some ⟨c, h⟩ => some ⟨c, sw_and1 h⟩
      | none => none)
    | .BoolOp .Or [a] q => (match cT n p a with
      | some ⟨c, h⟩ => some ⟨c, sw_or1 h⟩
      | none => none)
    | .BoolOp .And (a :: b :: r) q => (match cT n p a, cW n p (.BoolOp .And (b :: r) q) with
      | some ⟨ca, ha⟩, some ⟨cb, hb⟩ => some ⟨_, sw_and ha hb⟩
      | _, _ => none)
    | .BoolOp .Or (a :: b :: r) q => (match cT n p a, cW n p (.BoolOp .Or (b :: r) q) with
      | some ⟨ca, ha⟩, some ⟨cb, hb⟩ => some ⟨_, sw_or ha hb⟩
      | _, _ => none)
    | _ => none
end
end PQ

/-! The compiler of statements; whole defs. -/
namespace PQ
open PySem PySem.Spec PyProof.Rows L2
/-- a comprehension's parts -/
def asgLc0 (m : Nat) (p : Pl) (x : Str) (q2 : Pos) (q : Pos) (elt tg iter : Expr) (scope : Scope) (q3 : Pos) : Option { c : CS // SdS p (.Assign [.Name x q2] (.ListComp elt [⟨tg, iter, [], 0⟩] scope q3) q) c } :=
  if hs : blkC p.N p.sc scope (ownOf p scope) = true ∧ notSet iter = true ∧ p.sc.names.lookup x = some .local ∧ swapB p.sc x scope q2.line q3.line = true then (match idxN p x, cI m p tg iter, cN (p.within scope) tg, cE m (p.within scope) elt with
    | some ⟨j, hj⟩, some ⟨ii, hi⟩, some ⟨g, hg⟩, some ⟨ce, he⟩ => if h : storeB p scope g = true ∧ inOwn (ownOf p scope) g = true then some ⟨_, s_setLc hj hs.2.2.1 hs.2.2.2 hi hs.1 hg h.1 h.2 he hs.2.1⟩ else none
    | _, _, _, _ => none) else none
def asgLc1 (m : Nat) (p : Pl) (x : Str) (q2 : Pos) (q : Pos) (elt tg iter c : Expr) (scope : Scope) (q3 : Pos) : Option { r : CS // SdS p (.Assign [.Name x q2] (.ListComp elt [⟨tg, iter, [c], 0⟩] scope q3) q) r } :=
  if hs : blkC p.N p.sc scope (ownOf p scope) = true ∧ notSet iter = true ∧ p.sc.names.lookup x = some .local ∧ swapB p.sc x scope q2.line q3.line = true then (match idxN p x, cI m p tg iter, cN (p.within scope) tg, cE m (p.within scope) elt, cT m (p.within scope) c with
    | some ⟨j, hj⟩, some ⟨ii, hi⟩, some ⟨g, hg⟩, some ⟨ce, he⟩, some ⟨ct, ht⟩ => if h : storeB p scope g = true ∧ inOwn (ownOf p scope) g = true then some ⟨_, s_setLcIf hj hs.2.2.1 hs.2.2.2 hi hs.1 hg h.1 h.2 he hs.2.1 ht⟩ else none
    | _, _, _, _, _ => none) else none
def asgGs (m : Nat) (p : Pl) (x : Str) (q2 : Pos) (q : Pos) (elt : Expr) (scope : Scope) (q3 : Pos) : (gs : List Comprehension) → Option { c : CS // SdS p (.Assign [.Name x q2] (.ListComp elt gs scope q3) q) c }
  | [⟨tg, iter, ifs, a⟩] => if ha : a = 0 then (match ifs with
      | [] => by subst ha; exact asgLc0 m p x q2 q elt tg iter scope q3
      | [c] => by subst ha; exact asgLc1 m p x q2 q elt tg iter c scope q3
      | _ => none) else none
  | _ => none
def asgName (m : Nat) (p : Pl) (x : Str) (q2 : Pos) (e : Expr) (q : Pos) : Option { c : CS // SdS p (.Assign [.Name x q2] e q) c } :=
  if hsw : swB p.sc e x q2.line = false then (match nameAt p x, cE m p e with
    | some ⟨j, hj⟩, some ⟨c, h⟩ => some ⟨_, s_setN hj h (fun env he => swB_ok hsw env he)⟩
    | _, _ => none)
  else (match e with
    | .ListComp elt gs scope q3 => asgGs m p x q2 q elt scope q3 gs
    | _ => none)
def nm? : (e : Expr) → Option { x : Str × Pos // e = .Name x.1 x.2 }
  | .Name x q => some ⟨(x, q), rfl⟩
  | _ => none
def asgPar (m : Nat) (p : Pl) (q q2 q3 : Pos) (k k2 : Nat) (e1 e2 a b : Expr) : Option { c : CS // SdS p (.Assign [.Tuple [e1, e2] k q2] (.Tuple [a, b] k2 q3) q) c } := match nm? e1, nm? e2 with
  | some ⟨x, hx⟩, some ⟨y, hy⟩ => (match idxN p x.1, idxN p y.1, cE m p a, cE m p b with
    | some ⟨j, hj⟩, some ⟨k', hk⟩, some ⟨ca, ha⟩, some ⟨cb, hb⟩ => if h : j ≠ k' ∧ p.sc.names.lookup x.1 = some .local ∧ p.sc.names.lookup y.1 = some .local ∧ notStar a = true ∧ notStar b = true ∧ swpS p.sc [.Name x.1 x.2, .Name y.1 y.2] [a, b] = some (some [x.1, y.1]) then
        some ⟨.par j k' ca cb, by subst hx hy; exact s_par hj hk h.1 h.2.1 h.2.2.1 h.2.2.2.1 h.2.2.2.2.1 ha hb (fun env he => swpS_ok h.2.2.2.2.2 env he)⟩ else none
    | _, _, _, _ => none)
  | _, _ => none
def asgTT (m : Nat) (p : Pl) (es vs : List Expr) (q q2 q3 : Pos) (k k2 : Nat) : Option { c : CS // SdS p (.Assign [.Tuple es k q2] (.Tuple vs k2 q3) q) c } :=
  if hw : swpS p.sc es vs = some none then (match namesAt p es, cE m p (.Tuple vs k2 q3) with
    | some ⟨is, hi⟩, some ⟨c, h⟩ => some ⟨_, s_setT hi h (fun env he => swpS_ok hw env he)⟩
    | _, _ => none)
  else (match es with
    | [e1, e2] => (match vs with
      | [a, b] => asgPar m p q q2 q3 k k2 e1 e2 a b
      | _ => none)
    | _ => none)
def notTup : Expr → Bool
  | .Tuple .. => false
  | _ => true
theorem sw_no {ts : Expr} {e : Expr} (h : notTup e = true) (env : Env) : swappedStores [ts] e env = pure none := by
  cases e <;> first | (cases h; done) | (cases ts <;> rfl)
def asgTup (m : Nat) (p : Pl) (es : List Expr) (k : Nat) (q2 : Pos) (e : Expr) (q : Pos) : Option { c : CS // SdS p (.Assign [.Tuple es k q2] e q) c } :=
  if hw : notTup e = true then (match namesAt p es, cE m p e with
    | some ⟨is, hi⟩, some ⟨c, h⟩ => some ⟨_, s_setT hi h (fun env _ => sw_no hw env)⟩
    | _, _ => none)
  else (match e with
    | .Tuple vs k2 q3 => asgTT m p es vs q q2 q3 k k2
    | _ => none)
def asgSub (m : Nat) (p : Pl) (o i : Expr) (q2 : Pos) (e : Expr) (q : Pos) : Option { c : CS // SdS p (.Assign [.Subscript o i q2] e q) c } :=
  if hn : notSlice i = true then (match cE m p o, cE m p i, cE m p e with
    | some ⟨co, ho⟩, some ⟨ci, hi⟩, some ⟨c, h⟩ => some ⟨_, s_sub2 hn ho hi h⟩
    | _, _, _ => none) else none
def cAsg (m : Nat) (p : Pl) (e : Expr) (q : Pos) : (t : Expr) → Option { c : CS // SdS p (.Assign [t] e q) c }
  | .Name x q2 => asgName m p x q2 e q
  | .Tuple es k q2 => asgTup m p es k q2 e q
  | .Subscript o i q2 => asgSub m p o i q2 e q
  | _ => none
def cAug (m : Nat) (p : Pl) (op : Operator) (e : Expr) (q : Pos) : (t : Expr) → Option { c : CS // SdS p (.AugAssign t op e q) c }
  | .Name x q2 => (match bopOf op, nameAt p x, cE m p e with
      | some ⟨f, hf⟩, some ⟨j, hj⟩, some ⟨c, h⟩ => some ⟨.aug j f c, by subst hf; exact s_aug hj h⟩
      | _, _, _ => none)
  | .Subscript o i q2 => if hn : notSlice i = true then (match bopOf op, cE m p o, cE m p i, cE m p e with
      | some ⟨f, hf⟩, some ⟨co, ho⟩, some ⟨ci, hi⟩, some ⟨c, h⟩ => some ⟨.augS co ci f c, by subst hf; exact s_augS hn ho hi h⟩
      | _, _, _, _ => none) else none
  | _ => none
mutual
def cS (m : Nat) : Nat → (p : Pl) → (s : Stmt) → Option { c : CS // SdS p s c }
  | 0, _, _ => none
  | n + 1, p, s => match s with
    | .Pass q => some ⟨.pass, s_pass⟩
    | .Break q => some ⟨.brk, s_brk⟩
    | .Continue q => some ⟨.cont, s_cont⟩
    | .Return r q => (match r with
      | some e => (match cE m p e with
        | some ⟨c, h⟩ => some ⟨_, s_ret h⟩
        | none => none)
      | none => none)
    | .Expr e q => if hn : notComp e = true then (match cE m p e with
      | some ⟨c, h⟩ => some ⟨_, s_ex hn h⟩
      | none => none) else none
    | .If t a b q => (match cT m p t, cSs m n p a, cSs m n p b with
      | some ⟨ct, ht⟩, some ⟨ca, ha⟩, some ⟨cb, hb⟩ => some ⟨_, s_if ht ha hb⟩
      | _, _, _ => none)
    | .For tg iter b oe q => (match oe with
      | [] => if hs : notSet iter = true then (match cI m p tg iter, cN p tg, cSs m n p b with
        | some ⟨ii, hi⟩, some ⟨g, hg⟩, some ⟨cb, hb⟩ => some ⟨_, s_for hs hi hg hb⟩
        | _, _, _ => none) else none
      | _ => none)
    | .Raise e1 e2 q => some ⟨_, s_raise⟩
    | .While t b oe q => (match oe with
      | [] => (match cT m p t, cSs m n p b with
        | some ⟨ct, ht⟩, some ⟨cb, hb⟩ => some ⟨_, s_while ht hb⟩
        | _, _ => none)
      | _ => none)
    | .AugAssign t op e q => cAug m p op e q t
    | .Assign ts e q => (match ts with
      | [t] => cAsg m p e q t
      | _ => none)
    | _ => none
def cSs (m : Nat) : Nat → (p : Pl) → (s : List Stmt) → Option { c : CSs // SdSs p s c }
  | 0, _, _ => none
  | n + 1, p, [] => some ⟨.nil, ss_nil⟩
  | n + 1, p, s :: ss => (match cS m n p s, cSs m n p ss with
    | some ⟨c, h⟩, some ⟨cs, hs⟩ => some ⟨_, ss_cons h hs⟩
    | _, _ => none)
end

/-! ### whole defs -/
/-- a def: its name, its names by slot, how many of them are parameters, its body -/
structure Fn where
  name : Str
  N : List Str
  ps : Nat
  body : CSs
def startE (n : Nat) (ds : List D) : En := ds.map some ++ List.replicate (n - ds.length) none
mutual
/-- no number of the store from n on -/
def below (n : Nat) : D → Prop
  | .tup ds => belows n ds
  | .fix ds => belows n ds
  | .ref i => i < n
  | _ => True
def belows (n : Nat) : List D → Prop
  | [] => True
  | d :: ds => below n d ∧ belows n ds
end
def Ob.below (n : Nat) : Ob → Prop
  | .lst ds => belows n ds
  | .dic ks => belows n (ks.map (·.2))
/-- what a call made is out of reach behind it -/
def Safe (S : Sto) (d : D) (S' : Sto) : Prop := below S.length d ∧ S.length ≤ S'.length ∧ ∀ (i : Nat) o, i < S.length → S'[i]? = some o → S[i]? = some o ∨ o.below S.length
noncomputable def gc (S : Sto) (d : D) (S' : Sto) : Res D := open Classical in if Safe S d S' then .ok d (S'.take S.length) else .ok d S'
/-- a body's run -/
noncomputable def runB (C : Orc) (f : Fn) (ds : List D) (S : Sto) : Res D := (evSs C f.body (startE f.N.length ds) S).bind fun fl S' => match fl with
  | .nx _ => .ok .non S'
  | .rt d => .ok d S'
  | _ => .bad
noncomputable def callF (C : Orc) (f : Fn) (ds : List D) (S : Sto) : Res D := if ds.length = f.ps then (runB C f ds S).bind fun d S' => gc S d S' else .bad
/-- the defs, calls at most k deep -/
noncomputable def orc (T : List Fn) : Nat → Orc
  | 0, _, _, _ => .bad
  | k + 1, f, ds, S => match T[f]? with
    | some fn => callF (orc T k) fn ds S
    | none => .bad

section
variable {K : Fg} {μ μ' : List Addr} {H H' : Hp} {S S' : Sto}
mutual
theorem below_rp : ∀ (d : D) (v : V), Rp K μ H d v → below μ.length d
  | .non, _, _ => trivial
  | .bl _, _, _ => trivial
  | .int _, _, _ => trivial
  | .str _, _, _ => trivial
  | .tup ds, _, ⟨_, vs, _, _, h, _⟩ => belows_rp ds vs h
  | .fix ds, _, ⟨_, vs, _, _, h, _⟩ => belows_rp ds vs h
  | .ref i, _, ⟨_, _, h⟩ => (List.getElem?_eq_some_iff.mp h).1
theorem belows_rp : ∀ (ds : List D) (vs : List V), RpA K μ H ds vs → belows μ.length ds
  | [], _, _ => trivial
  | d :: ds, _, ⟨v, r, _, h1, h2⟩ => ⟨below_rp d v h1, belows_rp ds r h2⟩
end
mutual
theorem rp_below {n : Nat} (hn : n ≤ μ.length) : ∀ (d : D) (v : V), below n d → Rp K μ H d v → Rp K (μ.take n) H d v
  | .non, _, _, h => h
  | .bl _, _, _, h => h
  | .int _, _, _, h => h
  | .str _, _, _, h => h
  | .tup ds, _, b, ⟨a, vs, h1, h2, h3, h4⟩ => ⟨a, vs, h1, h2, rps_below hn ds vs b h3, h4⟩
  | .fix ds, _, b, ⟨a, vs, h1, h2, h3, h4⟩ => ⟨a, vs, h1, h2, rps_below hn ds vs b h3, h4⟩
  | .ref i, _, b, ⟨a, h1, h2⟩ => ⟨a, h1, by
    rw [List.getElem?_take_of_lt b]
    exact h2⟩
theorem rps_below {n : Nat} (hn : n ≤ μ.length) : ∀ (ds : List D) (vs : List V), belows n ds → RpA K μ H ds vs → RpA K (μ.take n) H ds vs
  | [], _, _, h => h
  | d :: ds, _, b, ⟨v, r, h1, h2, h3⟩ => ⟨v, r, h1, rp_below hn d v b.1 h2, rps_below hn ds r b.2 h3⟩
end
theorem RpK.below : ∀ {ks : List (Key × D)} {vs : List (Key × V)}, RpK K μ H ks vs → belows μ.length (ks.map (·.2))
  | [], _, _ => trivial
  | kd :: r, _, ⟨v, t, _, h2, h3⟩ => ⟨below_rp kd.2 v h2, h3.below⟩
theorem RpK.take {n : Nat} (hn : n ≤ μ.length) : ∀ {ks : List (Key × D)} {vs : List (Key × V)}, belows n (ks.map (·.2)) → RpK K μ H ks vs → RpK K (μ.take n) H ks vs
  | [], _, _, h => h
  | kd :: r, _, b, ⟨v, t, h1, h2, h3⟩ => ⟨v, t, h1, rp_below hn kd.2 v b.1 h2, RpK.take hn b.2 h3⟩
theorem gc_ok (hs : StOk K μ H S) (e : Ext K μ H μ' H') (hs' : StOk K μ' H' S') {d : D} {v : V} (r : Rp K μ' H' d v) {Q : V → Hp → Prop} (h : Po K μ H (gc S d S') fun d _ μ' H' => ∀ v, Rp K μ' H' d v → Q v H') : Q v H' := by
  unfold gc at h
  split at h
  · rename_i sf
    obtain ⟨b, l, old⟩ := sf
    obtain ⟨l', rfl, n'⟩ := e.pre
    have et : (μ ++ l').take S.length = μ := by rw [← hs.len, List.take_left' rfl]
    refine h μ H' ⟨⟨[], by simp, fun a z => nomatch z⟩, e.alive, e.fr, e.tup, e.fix⟩ ⟨by rw [List.length_take, hs.len]; omega, hs.nd, fun i o a e1 e2 => ?_⟩ v ?_
    · have hi : i < S.length := by rw [← hs.len]; exact (List.getElem?_eq_some_iff.mp e2).1
      rw [List.getElem?_take_of_lt hi] at e1
      have bo : o.below S.length := by
        rcases old i o hi e1 with q | q
        · have := hs.ob i o a q e2
          cases o with
          | dic ks =>
            obtain ⟨vs, _, k, _⟩ := this
            rw [← hs.len]
            exact k.below
          | lst ds =>
            obtain ⟨vs, _, k, _⟩ := this
            rw [← hs.len]
            exact belows_rp ds vs k
        · exact q
      have k := hs'.ob i o a e1 (by rw [List.getElem?_append_left (by rw [hs.len]; exact hi)]; exact e2)
      cases o with
      | dic ks =>
        obtain ⟨vs, k1, k2, k3, k4⟩ := k
        refine ⟨vs, k1, ?_, k3, k4⟩
        have := RpK.take (n := S.length) (by rw [List.length_append, hs.len]; omega) bo k2
        rw [et] at this
        exact this
      | lst ds =>
        obtain ⟨vs, k1, k2, k3⟩ := k
        refine ⟨vs, k1, ?_, k3⟩
        have := rps_below (n := S.length) (by rw [List.length_append, hs.len]; omega) ds vs bo k2
        rw [et] at this
        exact this
    · have := rp_below (n := S.length) (by rw [List.length_append, hs.len]; omega) d v b r
      rw [et] at this
      exact this
  · exact h μ' H' e hs' v r
theorem start_ok {N : List Str} {ds : List D} {vs : List V} (r : RpA K μ H ds vs) : EnvOk K μ H (startE N.length ds) (L2.start N vs) := by
  unfold startE L2.start
  have hl := r.length
  refine ⟨by simp only [List.length_append, List.length_map, List.length_replicate]; omega, fun i d q => ?_⟩
  by_cases hi : i < ds.length
  · rw [List.getElem?_append_left (by rw [List.length_map]; exact hi), List.getElem?_map] at q
    cases e : ds[i]? with
    | none => rw [e] at q; cases q
    | some d' =>
      rw [e] at q
      cases q
      obtain ⟨v, e1, r1⟩ := r.get e
      refine ⟨v, ?_, r1⟩
      rw [List.getElem?_append_left (by rw [List.length_map]; omega), List.getElem?_map, e1]
      rfl
  · rw [List.getElem?_append_right (by rw [List.length_map]; omega), List.getElem?_replicate] at q
    split at q <;> cases q
end
/-- what a def keeps, from its body -/
theorem fn_ok {P : Program} {w : World} {K : Fg} {mg : Str → Option Value} {base : Heap} {C : Orc} {p : Pl} {fn : Fn} {i k : Nat} {x qual : Str} {params : Arguments} {body : List Stmt} {scope : Scope} {f : Addr} {fd : FuncData} (F : FunD K x qual params body scope [] [] f fd) (ps : List Str)
    (Sc : FnScope fn.N ps scope) (hps : ps.length = fn.ps) (hN : p.N = fn.N) (hsc : p.sc = scope) (hb : SdSs p body fn.body) (hC : ∀ ds S, C i ds S = .bad → False → False)
    (blt : ∀ x, x ∈ p.B → mg x = none)
    (glb : ∀ x g, (x, g) ∈ p.G → GvOk K mg x g)
    (fns : ∀ (j : Nat) y, p.T[j]? = some y → ∃ g gd ps, mg y = some (.ref g) ∧ FnOk P w K mg base CX0 k g gd ps (spC K C j) ∧ PySem.W.keepIn K (.ref g) = true ∧ Binds K gd ps [])
    (hk : k ≤ 300) : FnOk P w K mg base CX0 (k + 1) f fd ps (fun vs H Q _ => ∃ μ ds S, StOk K μ H S ∧ RpA K μ H ds vs ∧ Po K μ H (callF C fn ds S) fun d _ μ' H' => ∀ v, Rp K μ' H' d v → Q v H') := by
  refine F.ok Sc (fun vs H Q E h => ?_) (fun cdv A outer s H vs Q E hr h => ?_)
  · obtain ⟨μ, ds, S, _, r, h⟩ := h
    unfold callF at h
    split at h
    · rename_i hl
      rw [← r.length, hl, hps]
    · exact h.elim
  · obtain ⟨μ, ds, S, hs, r, h⟩ := h
    unfold callF at h
    split at h
    · rename_i hl
      generalize hX : cxOf CX0 P w K mg base fn.N qual scope f cdv A outer s H E = X
      have gd : Good X.nox p C := by
        subst hX
        refine ⟨rfl, Sc.nd, ?_, PassesOwn.never, hN.symm, hsc.symm, blt, glb, fun j y hy => ?_⟩
        · have := hr.units
          have h2 := hr.un
          show (A.deeper _).units + 80 < cLine
          omega
        · obtain ⟨g, gd, ps, h1, h2, h3, h4⟩ := fns j y hy
          exact ⟨g, gd, ps, k, h1, h2, hr, h3, h4⟩
      have hfn : X.nox.fn = (fun _ => true) := by subst hX; rfl
      have hK : X.nox.K = K := by subst hX; rfl
      refine ⟨_, (hb X.nox C gd hfn).nox, ?_⟩
      rw [hK]
      refine ⟨μ, startE fn.N.length ds, S, start_ok r, hs, ?_⟩
      have h : Po K μ H ((runB C fn ds S).bind fun d S' => gc S d S') _ := h
      unfold runB at h
      generalize evSs C fn.body (startE fn.N.length ds) S = rr at h
      cases rr with
      | ok fl S' =>
        intro μ' H' e s'
        cases fl with
        | nx ρ => exact fun σ he => gc_ok hs e s' (d := .non) (v := .non) rfl h
        | rt d => exact fun v rv => gc_ok hs e s' rv h
        | bk ρ => exact (h : False).elim
        | ct ρ => exact (h : False).elim
      | exc c fs S' => exact h.elim
      | bad => exact h.elim
    · exact h.elim
end PQ

/-! A whole program. -/
namespace PQ
open PySem PySem.Spec PyProof.Rows L2
/-- a def of the program as it stands behind the top -/
structure DefOk (K : Fg) (mg : Str → Option Value) (T B : List Str) (G : List (Str × Gv)) (fn : Fn) : Prop where
  ex : ∃ (f : Addr) (fd : FuncData) (qual : Str) (ps : List Str) (params : Arguments) (body : List Stmt) (scope : Scope), mg fn.name = some (.ref f) ∧ FunD K fn.name qual params body scope [] [] f fd ∧ FnScope fn.N ps scope ∧ ps.length = fn.ps ∧
    SdSs ⟨T, B, fn.N, scope, G⟩ body fn.body ∧ ∀ (s : Shared) (us : List Value), us.length = ps.length → BindsTo s fd ⟨us, []⟩ (ps.zip us)
theorem binds_of {K : Fg} {fd : FuncData} {ps : List Str} (h : ∀ (s : Shared) (us : List Value), us.length = ps.length → BindsTo s fd ⟨us, []⟩ (ps.zip us)) : Binds K fd ps [] := fun s us _ hl => by
  rw [List.append_nil] at hl ⊢
  exact h s us hl
theorem all_ok {P : Program} {w : World} {K : Fg} {mg : Str → Option Value} {base : Heap} {T : List Fn} {names B : List Str} {Gs : List (Str × Gv)} (hn : T.map (·.name) = names) (hB : ∀ x ∈ B, mg x = none) (hG : ∀ x g, (x, g) ∈ Gs → GvOk K mg x g) (hT : ∀ fn ∈ T, DefOk K mg names B Gs fn) :
    ∀ (k : Nat), k ≤ 300 → ∀ (i : Nat) fn, T[i]? = some fn → ∃ f fd ps, mg fn.name = some (.ref f) ∧ FnOk P w K mg base CX0 k f fd ps (spC K (orc T k) i) ∧ PySem.W.keepIn K (.ref f) = true ∧ Binds K fd ps []
  | 0, _, i, fn, h => by
    obtain ⟨f, fd, qual, ps, params, body, scope, h1, h2, h3, h4, h5, h6⟩ := (hT fn (List.mem_of_getElem? h)).ex
    refine ⟨f, fd, ps, h1, ⟨fun vs H Q E z => ?_, fun A outer s H args us vs Q E hr e0 hb r z => ?_⟩, h2.kp, binds_of h6⟩
    · obtain ⟨μ, ds, S, _, _, z⟩ := z
      exact z.elim
    · obtain ⟨μ, ds, S, _, _, z⟩ := z
      exact z.elim
  | k + 1, hk, i, fn, h => by
    obtain ⟨f, fd, qual, ps, params, body, scope, h1, h2, h3, h4, h5, h6⟩ := (hT fn (List.mem_of_getElem? h)).ex
    exact ⟨f, fd, ps, h1, step k hk i fn h f fd qual ps params body scope h2 h3 h4 h5 (all_ok hn hB hG hT k (by omega)), h2.kp, binds_of h6⟩
where
  step (k : Nat) (hk : k + 1 ≤ 300) (i : Nat) (fn : Fn) (h : T[i]? = some fn) (f : Addr) (fd : FuncData) (qual : Str) (ps : List Str) (params : Arguments) (body : List Stmt) (scope : Scope) (h2 : FunD K fn.name qual params body scope [] [] f fd) (h3 : FnScope fn.N ps scope) (h4 : ps.length = fn.ps)
      (h5 : SdSs ⟨names, B, fn.N, scope, Gs⟩ body fn.body) (ih : ∀ (i : Nat) fn, T[i]? = some fn → ∃ f fd ps, mg fn.name = some (.ref f) ∧ FnOk P w K mg base CX0 k f fd ps (spC K (orc T k) i) ∧ PySem.W.keepIn K (.ref f) = true ∧ Binds K fd ps []) : FnOk P w K mg base CX0 (k + 1) f fd ps (spC K (orc T (k + 1)) i) := by
    have F := fn_ok (P := P) (w := w) (mg := mg) (base := base) (C := orc T k) (p := ⟨names, B, fn.N, scope, Gs⟩) (fn := fn) (i := i) (k := k) h2 ps h3 h4 rfl rfl h5 (fun _ _ _ z => z) hB hG (fun j y hy => by
      have hy : names[j]? = some y := hy
      rw [← hn, List.getElem?_map] at hy
      cases e : T[j]? with
      | none => rw [e] at hy; cases hy
      | some gn =>
        rw [e] at hy
        cases hy
        obtain ⟨g, gd, qs, k1, k2, k3, k4⟩ := ih j gn e
        exact ⟨g, gd, qs, k1, k2, k3, k4⟩) (by omega)
    refine F.imp fun vs H Q E z => ?_
    obtain ⟨μ, ds, S, s1, s2, s3⟩ := z
    refine ⟨μ, ds, S, s1, s2, ?_⟩
    have e : orc T (k + 1) i ds S = callF (orc T k) fn ds S := by
      show (match T[i]? with
        | some fn => callF (orc T k) fn ds S
        | none => Res.bad) = _
      rw [h]
    rw [e] at s3
    exact s3
/-- a def, from the head's facts and the compiler's word -/
theorem def_ok {K : Fg} {h : Heap} {mg : Str → Option Value} {fn : List He.DefD} {fa : List He.Fa} {names B N ps : List Str} {Gs : List (Str × Gv)} {x : Str} {n : Nat} {body : CSs} (X : K.In h) (G : h.Ns mainGlobals mg) (c : He.SaysD fa fn K) (i : Nat) {st : Stmt} (hd : fn[i]? = some ⟨(x, none), x, x, defArgs st, defBody st, defScope st, [], []⟩) (j : Nat) (hj : fa[j]? = some (.glo x))
    (hc : (cSs 60 60 ⟨names, B, N, defScope st, Gs⟩ (defBody st)).map (·.val) = some body) (hs : FnScope N ps (defScope st)) (hp : ps.length = n)
    (hb : ∀ (kV doc pm : Value) (an : Option Addr) (cdv ct : Value) (us : List Value), us.length = ps.length → bindArgs (PySem.W.fnOf x x (defArgs st) (defBody st) (defScope st) .none kV doc pm an cdv ct) ⟨us, []⟩ = pure (ps.zip us)) : DefOk K mg names B Gs ⟨x, N, n, body⟩ := by
  obtain ⟨fd, F⟩ := c.def_ i (d := ⟨(x, none), x, x, defArgs st, defBody st, defScope st, [], []⟩) hd
  have hm := He.glo_ok X G (c.fact j (f := .glo x) hj)
  cases e : cSs 60 60 ⟨names, B, N, defScope st, Gs⟩ (defBody st) with
  | none => rw [e] at hc; cases hc
  | some r =>
    rw [e] at hc
    have hr : r.val = body := Option.some.inj hc
    exact ⟨_, fd, x, ps, _, _, _, hm, F, hs, hp, by
      rw [← hr]
      exact r.property, fun s us hl => FunD.bindsA F hb s us hl⟩
/-- the law's def: what the language says of it, for every script -/
theorem law_end {l : PySem.W.OpenLaw} {w : World} {K : Fg} {h : Heap} {mg : Str → Option Value} {T : List Fn} {names B : List Str} {Gs : List (Str × Gv)} {fa : Addr} {lawFn : Fn} {i k n : Nat} (KX : K.In h) (hn : T.map (·.name) = names) (hB : ∀ x ∈ B, mg x = none) (hG : ∀ x g, (x, g) ∈ Gs → GvOk K mg x g) (hT : ∀ fn ∈ T, DefOk K mg names B Gs fn)
    (hl : T[i]? = some lawFn) (hx : lawFn.N.take 1 = ([("script" : Str)] : List Str)) (hp : lawFn.ps = 1) (hmg : mg lawFn.name = some (.ref fa)) (hk : k + 1 ≤ 300) (hns : n ≤ sizeLine)
    (true_ : ∀ ns : List Int, ns.length ≤ n → ∃ S, orc T (k + 1) i [.fix (ns.map .int)] [] = .ok (.bl true) S) :
    ∃ (K : PySem.W.Frag) (fd : FuncData) (sp : Sp), K.In h ∧ (∀ (s : Shared) (u : Value), BindsTo s fd ⟨[u], []⟩ [(("script" : Str), u)]) ∧
        (∀ (H : Hp) (a : Addr) (ns : List Int), ns.length ≤ n → Only H → SqL K H a (ns.map V.int) → sp [.ref a] H (fun v _ => v = .bl true) fun _ _ _ => False) ∧
        ∀ base : Heap, K.In base → base.Ns mainGlobals mg → FnOk l.prog w K mg base CX0 (k + 1) fa fd ([("script" : Str)] : List Str) sp := by
  obtain ⟨f, fd, qual, ps, params, body, scope, h1, h2, h3, h4, h5, h6⟩ := (hT lawFn (List.mem_of_getElem? hl)).ex
  have ef : fa = f := by
    rw [hmg] at h1
    cases h1
    rfl
  subst ef
  have eps : ps = ([("script" : Str)] : List Str) := by
    have := h3.pre
    rw [h4, hp, hx] at this
    exact this.symm
  subst eps
  refine ⟨K, fd, spC K (orc T (k + 1)) i, KX, fun s u => h6 s [u] rfl, fun H a ns hl' hO hS => ?_, fun base _ _ => all_ok.step hn hB hG 0 k hk i lawFn hl fa fd qual _ params body scope h2 h3 h4 h5 (all_ok hn hB hG hT k (by omega))⟩
  have hf : Fix K H a (ns.map V.int) := by
    rcases hS with (q | ⟨o, q⟩) | q
    · rcases hO a with z | ⟨o, xs, z⟩
      · rw [z] at q; cases q
      · rw [z] at q; cases q
    · exact .inl ⟨o, q⟩
    · exact .inr q
  have hr : ∀ ns : List Int, RpA K [] H (ns.map D.int) (ns.map V.int) := fun ns => by
    induction ns with
    | nil => exact rfl
    | cons x xs ih => exact .cons rfl ih
  obtain ⟨S, hS'⟩ := true_ ns hl'
  refine ⟨[], [.fix (ns.map .int)], [], ⟨rfl, List.nodup_nil, fun i o a e _ => by simp at e⟩, .cons ⟨a, _, rfl, hf, hr ns, by rw [List.length_map]; omega⟩ .nil, ?_⟩
  rw [hS']
  exact fun μ' H' _ _ v rv => rv
end PQ

/-! What a run says, by what is asked of its end. -/
namespace PQ
open PySem PySem.Spec PyProof.Rows L2
/-- it ends well, and then .. -/
def W {α : Type} (r : Res α) (Q : α → Sto → Prop) : Prop := ∃ a S, r = .ok a S ∧ Q a S
section
variable {α β : Type} {Q : α → Sto → Prop} {a : α} {S : Sto}
@[simp] theorem W_ok : W (.ok a S) Q = Q a S := propext ⟨fun ⟨_, _, e, h⟩ => by cases e; exact h, fun h => ⟨_, _, rfl, h⟩⟩
@[simp] theorem W_bad : W (.bad : Res α) Q = False := propext ⟨fun ⟨_, _, e, _⟩ => (nomatch e), False.elim⟩
@[simp] theorem W_exc {c : Str} {fs : List (Str × D)} : W (.exc c fs S : Res α) Q = False := propext ⟨fun ⟨_, _, e, _⟩ => (nomatch e), False.elim⟩
@[simp] theorem W_bind {r : Res β} {f : β → Sto → Res α} : W (r.bind f) Q = W r fun b S => W (f b S) Q := by
  cases r with
  | ok b S => simp [Res.bind]
  | exc c fs S => simp [Res.bind]
  | bad => simp [Res.bind]
@[simp] theorem W_ask {p : Prop} {r : Res α} : W (ask p r) Q = (p ∧ W r Q) := by
  unfold ask
  split <;> rename_i h
  · exact propext ⟨fun x => ⟨h, x⟩, fun x => x.2⟩
  · rw [W_bad]
    exact propext ⟨False.elim, fun x => h x.1⟩
@[simp] theorem may_some {f : β → Res α} {b : β} : may (some b) f = f b := rfl
@[simp] theorem may_none {f : β → Res α} : may none f = .bad := rfl
theorem W_mono {Q' : α → Sto → Prop} {r : Res α} (h : W r Q) (k : ∀ a S, Q a S → Q' a S) : W r Q' := by
  obtain ⟨a, S, e, h⟩ := h
  exact ⟨a, S, e, k _ _ h⟩
theorem W_ite {c : Prop} [Decidable c] {r s : Res α} (h1 : c → W r Q) (h2 : ¬c → W s Q) : W (if c then r else s) Q := by
  split
  · exact h1 ‹_›
  · exact h2 ‹_›
end
/-- a walk: each turn goes on -/
theorem loopS_w {C : Sto → Prop} {f : D → En → Sto → Res Fl} {Q : Fl → Sto → Prop} (I : List D → En → Sto → Prop)
    (h : ∀ d ds ρ S, I (d :: ds) ρ S → C S ∧ W (f d ρ S) fun fl S' => (∃ ρ', (fl = .nx ρ' ∨ fl = .ct ρ') ∧ I ds ρ' S'))
    (h0 : ∀ ρ S, I [] ρ S → C S ∧ Q (.nx ρ) S) : ∀ ds ρ S, I ds ρ S → W (loopS C f ds ρ S) Q
  | [], ρ, S, i => by
    rw [loopS, W_ask, W_ok]
    exact h0 ρ S i
  | d :: ds, ρ, S, i => by
    rw [loopS, W_ask, W_bind]
    obtain ⟨k1, k2⟩ := h d ds ρ S i
    refine ⟨k1, W_mono k2 fun fl S' ⟨ρ', e, k⟩ => ?_⟩
    rcases e with e | e <;> subst e <;> exact loopS_w I h h0 ds ρ' S' k
/-- a comprehension without a test: each item makes one -/
theorem loopQ_w {C : Sto → Prop} {f : D → Sto → Res (Option D)} {Q : List D → Sto → Prop} (I : List D → List D → Sto → Prop)
    (h : ∀ d ds r S, I (d :: ds) r S → C S ∧ W (f d S) fun o S' => I ds (r ++ o.toList) S')
    (h0 : ∀ r S, I [] r S → C S ∧ Q r S) (ds : List D) (S : Sto) (i : I ds [] S) : W (loopQ C f ds S) Q := by
  suffices ∀ (ds r : List D) S, I ds r S → W (loopQ C f ds S) fun x S => Q (r ++ x) S by
    have := this ds [] S i
    simpa using this
  intro ds
  induction ds with
  | nil =>
    intro r S i
    rw [loopQ, W_ask, W_ok, List.append_nil]
    exact h0 r S i
  | cons d ds ih =>
    intro r S i
    rw [loopQ, W_ask, W_bind]
    obtain ⟨k1, k2⟩ := h d ds r S i
    refine ⟨k1, W_mono k2 fun o S' k => ?_⟩
    rw [W_bind]
    refine W_mono (ih _ _ k) fun x S'' q => ?_
    rw [W_ok]
    cases o with
    | none => simpa using q
    | some o => simpa using q
/-- what a def hands back -/
theorem callF_w {C : Orc} {fn : Fn} {ds : List D} {S : Sto} {Q : D → Sto → Prop} (hl : ds.length = fn.ps) (h : W (runB C fn ds S) fun d S' => W (gc S d S') Q) : W (callF C fn ds S) Q := by
  unfold callF
  rw [if_pos hl, W_bind]
  exact h
@[simp] theorem gc_self {S : Sto} {d : D} : gc S d S = .ok d S := by
  unfold gc
  split <;> simp
theorem gc_same {S S' : Sto} {d : D} (h : S'.length = S.length) : gc S d S' = .ok d S' := by
  unfold gc
  split
  · rw [← h, List.take_length]
  · rfl
/-- what stands anew behind the old store, and is not handed back, is forgotten -/
theorem gc_app {S g : Sto} {d : D} (h : below S.length d) : gc S d (S ++ g) = .ok d S := by
  unfold gc
  rw [if_pos]
  · simp
  · refine ⟨h, by simp, fun i o hi e => .inl ?_⟩
    rw [← e, List.getElem?_append_left hi]
end PQ

/-! One step of a run, by its syntax. -/
namespace PQ
open PySem PySem.Spec PyProof.Rows L2
variable {C : Orc} {ρ : En} {S : Sto}
theorem w_var {i : Nat} {d : D} {Q : D → Sto → Prop} (k : ρ[i]? = some (some d))(h : Q d S) : W (evE C (.var i) ρ S) Q := by
  simpa [evE, k] using h
theorem w_lit {d : D} {Q : D → Sto → Prop} (h : Q d S) : W (evE C (.lit d) ρ S) Q := by
  simpa [evE] using h
theorem w_tup {es : CEs} {Q : D → Sto → Prop} (h : W (evEs C es ρ S) fun ds S1 => ds.length ≤ sizeLine ∧ Q (.tup ds) S1) : W (evE C (.tup es) ρ S) Q := by
  simpa [evE] using h
theorem w_alloc {q : CQ} {Q : D → Sto → Prop} (h : W (evQ C q ρ S) fun ds S1 => Q (.ref S1.length) (S1 ++ [.lst ds])) : W (evE C (.alloc q) ρ S) Q := by
  simpa [evE] using h
theorem w_bin {o : Bop} {a b : CE} {Q : D → Sto → Prop} (h : W (evE C a ρ S) fun x S1 => W (evE C b ρ S1) fun y S2 => W (binD o x y S2) Q) : W (evE C (.bin o a b) ρ S) Q := by
  simpa [evE] using h
theorem w_cmp {o : Cop} {a b : CE} {Q : D → Sto → Prop} (h : W (evE C a ρ S) fun x S1 => W (evE C b ρ S1) fun y S2 => W (cmpD o x y S2) Q) : W (evE C (.cmp o a b) ρ S) Q := by
  simpa [evE] using h
noncomputable def chnK (C : Orc) (p : Cop) (c : CE) (ρ : En) (y : D) (z : D) (S3 : Sto) : Res D := match z with
  | .bl true => (evE C c ρ S3).bind fun w S4 => cmpD p y w S4
  | .bl false => .ok (.bl false) S3
  | _ => .bad
theorem w_chn {o p : Cop} {a b c : CE} {Q : D → Sto → Prop} (h : W (evE C a ρ S) fun x S1 => W (evE C b ρ S1) fun y S2 => W (cmpD o x y S2) fun z S3 => W (chnK C p c ρ y z S3) Q) : W (evE C (.chn o p a b c) ρ S) Q := by
  have e : evE C (.chn o p a b c) ρ S = (evE C a ρ S).bind fun x S1 => (evE C b ρ S1).bind fun y S2 => (cmpD o x y S2).bind fun z S3 => chnK C p c ρ y z S3 := rfl
  rw [e]
  simpa only [W_bind] using h
theorem w_chnB {p : Cop} {c : CE} {y : D} {k : Bool} {Q : D → Sto → Prop} (h1 : k = true → W (evE C c ρ S) fun w S4 => W (cmpD p y w S4) Q) (h2 : k = false → Q (.bl false) S) : W (chnK C p c ρ y (.bl k) S) Q := by
  cases k
  · exact (W_ok (Q := Q)).symm ▸ h2 rfl
  · show W (Res.bind _ _) _
    rw [W_bind]
    exact h1 rfl
theorem w_isN {a : CE} {Q : D → Sto → Prop} (h : W (evE C a ρ S) fun x S1 => Q (.bl (isNon x)) S1) : W (evE C (.isN a) ρ S) Q := by
  simpa [evE] using h
theorem w_notN {a : CE} {Q : D → Sto → Prop} (h : W (evE C a ρ S) fun x S1 => Q (.bl (!isNon x)) S1) : W (evE C (.notN a) ρ S) Q := by
  simpa [evE] using h
theorem w_inr {a : CE} {r : CR} {Q : D → Sto → Prop} (h : W (evE C a ρ S) fun x S1 => W (evR C r ρ S1) fun v S2 => W (may (inD x v S2) fun b => .ok (.bl b) S2) Q) : W (evE C (.inr a r) ρ S) Q := by
  simpa [evE] using h
theorem w_notInr {a : CE} {r : CR} {Q : D → Sto → Prop} (h : W (evE C a ρ S) fun x S1 => W (evR C r ρ S1) fun v S2 => W (may (inD x v S2) fun b => .ok (.bl (!b)) S2) Q) : W (evE C (.notInr a r) ρ S) Q := by
  simpa [evE] using h
theorem w_and {a b : CE} {Q : D → Sto → Prop} (h : W (evE C a ρ S) fun x S1 => W (may (tru S1 x) fun k => if k = true then evE C b ρ S1 else .ok x S1) Q) : W (evE C (.and a b) ρ S) Q := by
  simpa [evE] using h
theorem w_or {a b : CE} {Q : D → Sto → Prop} (h : W (evE C a ρ S) fun x S1 => W (may (tru S1 x) fun k => if k = true then .ok x S1 else evE C b ρ S1) Q) : W (evE C (.or a b) ρ S) Q := by
  simpa [evE] using h
theorem w_not {a : CE} {Q : D → Sto → Prop} (h : W (evE C a ρ S) fun x S1 => W (may (tru S1 x) fun k => .ok (.bl (!k)) S1) Q) : W (evE C (.not a) ρ S) Q := by
  simpa [evE] using h
theorem w_ife {t : CT} {a b : CE} {Q : D → Sto → Prop} (h : W (evT C t ρ S) fun k S1 => W (if k = true then evE C a ρ S1 else evE C b ρ S1) Q) : W (evE C (.ife t a b) ρ S) Q := by
  simpa [evE] using h
theorem w_idx {a b : CE} {Q : D → Sto → Prop} (h : W (evE C a ρ S) fun x S1 => W (evE C b ρ S1) fun y S2 => W (idxD x y S2) Q) : W (evE C (.idx a b) ρ S) Q := by
  simpa [evE] using h
theorem w_slc {a : CE} {lo hi : CO} {Q : D → Sto → Prop} (h : W (evE C a ρ S) fun x S1 => W (evO C lo ρ S1) fun l S2 => W (evO C hi ρ S2) fun u S3 => W (slcD x l u S3) Q) : W (evE C (.slc a lo hi) ρ S) Q := by
  simpa [evE] using h
theorem w_call {f : Nat} {es : CEs} {Q : D → Sto → Prop} (h : W (evEs C es ρ S) fun ds S1 => W (C f ds S1) Q) : W (evE C (.call f es) ρ S) Q := by
  simpa [evE] using h
theorem w_fn1 {f : F1} {a : CE} {Q : D → Sto → Prop} (h : W (evE C a ρ S) fun x S1 => W (fn1D f x S1) Q) : W (evE C (.fn1 f a) ρ S) Q := by
  simpa [evE] using h
theorem w_fn2 {f : F2} {a b : CE} {Q : D → Sto → Prop} (h : W (evE C a ρ S) fun x S1 => W (evE C b ρ S1) fun y S2 => W (fn2D f x y S2) Q) : W (evE C (.fn2 f a b) ρ S) Q := by
  simpa [evE] using h
theorem w_agg {f : Ag} {r : CR} {Q : D → Sto → Prop} (h : W (evR C r ρ S) fun v S1 => W (aggD f v S1) Q) : W (evE C (.agg f r) ρ S) Q := by
  simpa [evE] using h
theorem w_isi {a : CE} {t : Ty} {Q : D → Sto → Prop} (h : W (evE C a ρ S) fun x S1 => W (may (tyB t S1 x) fun b => .ok (.bl b) S1) Q) : W (evE C (.isi a t) ρ S) Q := by
  simpa [evE] using h
theorem w_app {l x : CE} {Q : D → Sto → Prop} (h : W (evE C l ρ S) fun o S1 => W (withL S1 o fun _ _ => (evE C x ρ S1).bind fun v S2 => appD o v S2) Q) : W (evE C (.app l x) ρ S) Q := by
  simpa [evE] using h
theorem w_ext {l : CE} {r : CR} {Q : D → Sto → Prop} (h : W (evE C l ρ S) fun o S1 => W (withL S1 o fun _ _ => (evR C r ρ S1).bind fun v S2 => extD o v S2) Q) : W (evE C (.ext l r) ρ S) Q := by
  simpa [evE] using h
theorem w_pop {l : CE} {Q : D → Sto → Prop} (h : W (evE C l ρ S) fun o S1 => W (popD o S1) Q) : W (evE C (.pop l) ρ S) Q := by
  simpa [evE] using h
theorem w_popAt {l i : CE} {Q : D → Sto → Prop} (h : W (evE C l ρ S) fun o S1 => W (withL S1 o fun _ _ => (evE C i ρ S1).bind fun v S2 => popAtD o v S2) Q) : W (evE C (.popAt l i) ρ S) Q := by
  simpa [evE] using h
theorem w_join {s : Str} {r : CR} {Q : D → Sto → Prop} (h : W (evR C r ρ S) fun v S1 => W (may (sqOf S1 v) fun ds => may (strsOf ds) fun ys => ask ((ys.map (·.length)).sum + ys.length * s.length ≤ 16777216) (.ok (.str (Txt.join s ys)) S1)) Q) : W (evE C (.join s r) ρ S) Q := by
  simpa [evE] using h
theorem w_tix {a b : CE} {Q : D → Sto → Prop} (h : W (evE C a ρ S) fun x S1 => ∃ ds, x = .tup ds ∧ W (evE C b ρ S1) fun y S2 => W (tixD ds y S2) Q) : W (evE C (.tix a b) ρ S) Q := by
  simp only [evE, W_bind]
  refine W_mono h fun x S1 ⟨i, e, k⟩ => ?_
  subst e
  simpa using k
theorem w_neg {a : CE} {Q : D → Sto → Prop} (h : W (evE C a ρ S) fun x S1 => ∃ i, x = .int i ∧ Q (.int (-i)) S1) : W (evE C (.neg a) ρ S) Q := by
  simp only [evE, W_bind]
  refine W_mono h fun x S1 ⟨i, e, k⟩ => ?_
  subst e
  simpa using k
theorem w_oN {Q : Option Int → Sto → Prop} (h : Q none S) : W (evO C (.none) ρ S) Q := by
  simpa [evO] using h
theorem w_oS {a : CE} {Q : Option Int → Sto → Prop} (h : W (evE C a ρ S) fun x S1 => ∃ i, x = .int i ∧ Q (some i) S1) : W (evO C (.some a) ρ S) Q := by
  simp only [evO, W_bind]
  refine W_mono h fun x S1 ⟨i, e, k⟩ => ?_
  subst e
  simpa using k
theorem w_nil {Q : List D → Sto → Prop} (h : Q [] S) : W (evEs C (.nil) ρ S) Q := by
  simpa [evEs] using h
theorem w_cons {a : CE} {r : CEs} {Q : List D → Sto → Prop} (h : W (evE C a ρ S) fun d S1 => W (evEs C r ρ S1) fun ds S2 => Q (d :: ds) S2) : W (evEs C (.cons a r) ρ S) Q := by
  simpa [evEs] using h
theorem w_disp {es : CEs} {Q : List D → Sto → Prop} (h : W (evEs C es ρ S) fun ds S1 => ds.length ≤ sizeLine ∧ Q ds S1) : W (evQ C (.disp es) ρ S) Q := by
  simpa [evQ] using h
theorem w_comp {own : List Nat} {g : CN} {it : CI} {elt : CE} {Q : List D → Sto → Prop} (h : W (evI C it ρ S) fun t S1 => t.items.length ≤ sizeLine ∧ W (loopQ t.still (fun d S2 => may (bindN g d (wipeE ρ own) S2) fun ρ' => (evE C elt ρ' S2).bind fun x S3 => .ok (some x) S3) t.items S1) Q) : W (evQ C (.comp own g it elt) ρ S) Q := by
  simpa [evQ] using h
theorem w_compIf {own : List Nat} {g : CN} {it : CI} {c : CT} {elt : CE} {Q : List D → Sto → Prop} (h : W (evI C it ρ S) fun t S1 => t.items.length ≤ sizeLine ∧ W (loopQ t.still (fun d S2 => may (bindN g d (wipeE ρ own) S2) fun ρ' => (evT C c ρ' S2).bind fun k S3 => if k = true then (evE C elt ρ' S3).bind fun x S4 => .ok (some x) S4 else .ok none S3) t.items S1) Q) : W (evQ C (.compIf own g it c elt) ρ S) Q := by
  simpa [evQ] using h
theorem w_cat {a b : CR} {Q : List D → Sto → Prop} (h : W (evR C a ρ S) fun v S1 => W (evR C b ρ S1) fun w S2 => W (may (trOf S2 v) fun x => may (trOf S2 w) fun y => ask (x.length + y.length ≤ sizeLine) (.ok (x ++ y) S2)) Q) : W (evQ C (.cat a b) ρ S) Q := by
  simpa [evQ] using h
theorem w_sorted {r : CR} {Q : List D → Sto → Prop} (h : W (evR C r ρ S) fun v S1 => W (may (lsOf S1 v) fun ds => sortD S1 ds) Q) : W (evQ C (.sorted r) ρ S) Q := by
  simpa [evQ] using h
theorem w_list {r : CR} {Q : List D → Sto → Prop} (h : W (evR C r ρ S) fun v S1 => W (may (lstOf S1 v) fun ds => .ok ds S1) Q) : W (evQ C (.list r) ρ S) Q := by
  simpa [evQ] using h
theorem w_rev {r : CR} {Q : List D → Sto → Prop} (h : W (evR C r ρ S) fun v S1 => W (may (lsOf S1 v) fun ds => .ok ds.reverse S1) Q) : W (evQ C (.rev r) ρ S) Q := by
  simpa [evQ] using h
theorem w_listRg {a b : CE} {Q : List D → Sto → Prop} (h : W (evE C a ρ S) fun x S1 => W (evE C b ρ S1) fun y S2 => ∃ i j, x = .int i ∧ y = .int j ∧ RgOk i j ∧ Q (rgD i j) S2) : W (evQ C (.listRg a b) ρ S) Q := by
  simp only [evQ, W_bind]
  refine W_mono h fun x S1 h => W_mono h fun y S2 ⟨i, j, e1, e2, k⟩ => ?_
  subst e1 e2
  simpa using k
theorem w_q {c : CQ} {Q : RV → Sto → Prop} (h : W (evQ C c ρ S) fun ds S1 => Q (.own ds) S1) : W (evR C (.q c) ρ S) Q := by
  simpa [evR] using h
theorem w_e {c : CE} {Q : RV → Sto → Prop} (h : W (evE C c ρ S) fun d S1 => Q (.val d) S1) : W (evR C (.e c) ρ S) Q := by
  simpa [evR] using h
theorem w_ir {c : CR} {Q : Itv → Sto → Prop} (h : W (evR C c ρ S) fun v S1 => W (may (itOf v S1) fun t => .ok t S1) Q) : W (evI C (.r c) ρ S) Q := by
  simpa [evI] using h
theorem w_rg {a b : CE} {Q : Itv → Sto → Prop} (h : W (evE C a ρ S) fun x S1 => W (evE C b ρ S1) fun y S2 => ∃ i j, x = .int i ∧ y = .int j ∧ (bd62 i ∧ bd62 j) ∧ Q ⟨rgD i j, none⟩ S2) : W (evI C (.rg a b) ρ S) Q := by
  simp only [evI, W_bind]
  refine W_mono h fun x S1 h => W_mono h fun y S2 ⟨i, j, e1, e2, k⟩ => ?_
  subst e1 e2
  simpa using k
theorem w_rgd {a b : CE} {Q : Itv → Sto → Prop} (h : W (evE C a ρ S) fun x S1 => W (evE C b ρ S1) fun y S2 => ∃ i j, x = .int i ∧ y = .int j ∧ (bd62 i ∧ bd62 j) ∧ Q ⟨rgdD i j, none⟩ S2) : W (evI C (.rgd a b) ρ S) Q := by
  simp only [evI, W_bind]
  refine W_mono h fun x S1 h => W_mono h fun y S2 ⟨i, j, e1, e2, k⟩ => ?_
  subst e1 e2
  simpa using k
theorem w_tv {e : CE} {Q : Bool → Sto → Prop} (h : W (evE C e ρ S) fun x S1 => W (may (tru S1 x) fun k => .ok k S1) Q) : W (evT C (.v e) ρ S) Q := by
  simpa [evT] using h
theorem w_tand {a b : CT} {Q : Bool → Sto → Prop} (h : W (evT C a ρ S) fun k S1 => W (if k = true then evT C b ρ S1 else .ok false S1) Q) : W (evT C (.and a b) ρ S) Q := by
  simpa [evT] using h
theorem w_tor {a b : CT} {Q : Bool → Sto → Prop} (h : W (evT C a ρ S) fun k S1 => W (if k = true then .ok true S1 else evT C b ρ S1) Q) : W (evT C (.or a b) ρ S) Q := by
  simpa [evT] using h
theorem w_tnot {a : CT} {Q : Bool → Sto → Prop} (h : W (evT C a ρ S) fun k S1 => Q (!k) S1) : W (evT C (.not a) ρ S) Q := by
  simpa [evT] using h
theorem w_set {i : Nat} {e : CE} {Q : Fl → Sto → Prop} (h : W (evE C e ρ S) fun d S1 => Q (.nx (ρ.set i (some d))) S1) : W (evS C (.set (.nm i) e) ρ S) Q := by
  simpa [evS, bindN] using h
theorem w_setT {is : List Nat} {e : CE} {Q : Fl → Sto → Prop} (h : W (evE C e ρ S) fun d S1 => W (may (bindN (.tup is) d ρ S1) fun ρ' => .ok (.nx ρ') S1) Q) : W (evS C (.set (.tup is) e) ρ S) Q := by
  simpa [evS] using h
theorem w_par {i j : Nat} {a b : CE} {Q : Fl → Sto → Prop} (h : W (evE C a ρ S) fun x S1 => W (evE C b ρ S1) fun y S2 => Q (.nx ((ρ.set i (some x)).set j (some y))) S2) : W (evS C (.par i j a b) ρ S) Q := by
  simpa [evS] using h
theorem w_sub {o i e : CE} {Q : Fl → Sto → Prop} (h : W (evE C e ρ S) fun d S1 => W (evE C o ρ S1) fun x S2 => W (evE C i ρ S2) fun y S3 => W (setD x y d S3) fun _ S4 => Q (.nx ρ) S4) : W (evS C (.sub o i e) ρ S) Q := by
  simpa [evS] using h
theorem w_aug {i : Nat} {p : Bop} {e : CE} {d : D} {Q : Fl → Sto → Prop} (k : ρ[i]? = some (some d))(h : W (evE C e ρ S) fun y S1 => W (augD p d y S1) fun z S2 => Q (.nx (ρ.set i (some z))) S2) : W (evS C (.aug i p e) ρ S) Q := by
  simpa [evS, k] using h
def augK (C : Orc) (ρ : En) (p : Bop) (e : CE) (x y : D) (S2 : Sto) (Q : Fl → Sto → Prop) : Prop := W (getD x y S2) fun v S3 => W (evE C e ρ S3) fun w S4 => W (augD p v w S4) fun z S5 => W (setD x y z S5) fun _ S6 => Q (.nx ρ) S6
theorem w_augS {o i e : CE} {p : Bop} {Q : Fl → Sto → Prop} (h : W (evE C o ρ S) fun x S1 => W (evE C i ρ S1) fun y S2 => augK C ρ p e x y S2 Q) : W (evS C (.augS o i p e) ρ S) Q := by
  simp only [evS, W_bind, W_ok]
  exact h
theorem w_augK {e : CE} {p : Bop} {Q : Fl → Sto → Prop} {a : Nat} {ds : List D} {j : Int} {v : D} (k1 : S[a]? = some (.lst ds)) (k2 : atI ds j = some v) (h : W (evE C e ρ S) fun w S4 => W (augD p v w S4) fun z S5 => W (setD (.ref a) (.int j) z S5) fun _ S6 => Q (.nx ρ) S6) : augK C ρ p e (.ref a) (.int j) S Q := by
  unfold augK
  simpa [getD, idxD, k1, k2] using h
/-- the same of a dict -/
theorem w_augD {e : CE} {p : Bop} {Q : Fl → Sto → Prop} {a : Nat} {ks : List (Key × D)} {x v : D} {k : Key} (k1 : S[a]? = some (.dic ks)) (k2 : keyOf x = some k) (k3 : gD ks k = some v) (h : W (evE C e ρ S) fun w S4 => W (augD p v w S4) fun z S5 => W (setD (.ref a) x z S5) fun _ S6 => Q (.nx ρ) S6) : augK C ρ p e (.ref a) x S Q := by
  unfold augK
  cases x <;> first | (cases k2; done) | (cases k2; simpa [getD, idxD, k1, k3] using h)
theorem w_raise {Q : Fl → Sto → Prop} (h : False) : W (evS C .raise ρ S) Q := h.elim
theorem w_ex {e : CE} {Q : Fl → Sto → Prop} (h : W (evE C e ρ S) fun _ S1 => Q (.nx ρ) S1) : W (evS C (.ex e) ρ S) Q := by
  simpa [evS] using h
theorem w_ret {e : CE} {Q : Fl → Sto → Prop} (h : W (evE C e ρ S) fun d S1 => Q (.rt d) S1) : W (evS C (.ret e) ρ S) Q := by
  simpa [evS] using h
theorem w_ite {t : CT} {a b : CSs} {Q : Fl → Sto → Prop} (h : W (evT C t ρ S) fun k S1 => W (if k = true then evSs C a ρ S1 else evSs C b ρ S1) Q) : W (evS C (.ite t a b) ρ S) Q := by
  simpa [evS] using h
theorem w_for {g : CN} {it : CI} {b : CSs} {Q : Fl → Sto → Prop} (h : W (evI C it ρ S) fun t S1 => W (loopS t.still (fun d ρ1 S2 => may (bindN g d ρ1 S2) fun ρ2 => evSs C b ρ2 S2) t.items ρ S1) Q) : W (evS C (.for g it b) ρ S) Q := by
  simpa [evS] using h
theorem w_while {t : CT} {b : CSs} {Q : Fl → Sto → Prop} (h : W (whileS (evT C t) (evSs C b) turns ρ S) Q) : W (evS C (.while t b) ρ S) Q := by
  simpa [evS] using h
theorem w_brk {Q : Fl → Sto → Prop} (h : Q (.bk ρ) S) : W (evS C (.brk) ρ S) Q := by
  simpa [evS] using h
theorem w_cont {Q : Fl → Sto → Prop} (h : Q (.ct ρ) S) : W (evS C (.cont) ρ S) Q := by
  simpa [evS] using h
theorem w_pass {Q : Fl → Sto → Prop} (h : Q (.nx ρ) S) : W (evS C (.pass) ρ S) Q := by
  simpa [evS] using h
theorem w_snil {Q : Fl → Sto → Prop} (h : Q (.nx ρ) S) : W (evSs C (.nil) ρ S) Q := by
  simpa [evSs] using h
noncomputable def seqK (C : Orc) (r : CSs) (fl : Fl) (S1 : Sto) : Res Fl := match fl with
  | .nx ρ' => evSs C r ρ' S1
  | f => .ok f S1
theorem w_scons {s : CS} {r : CSs} {Q : Fl → Sto → Prop} (h : W (evS C s ρ S) fun fl S1 => W (seqK C r fl S1) Q) : W (evSs C (.cons s r) ρ S) Q := by
  have e : evSs C (.cons s r) ρ S = (evS C s ρ S).bind fun fl S1 => seqK C r fl S1 := rfl
  rw [e, W_bind]
  exact h
theorem w_nx {r : CSs} {Q : Fl → Sto → Prop} (h : W (evSs C r ρ S) Q) : W (seqK C r (.nx ρ) S) Q := h
theorem w_rt {r : CSs} {d : D} {Q : Fl → Sto → Prop} (h : Q (.rt d) S) : W (seqK C r (.rt d) S) Q := w_mk h where
  w_mk {fl : Fl} (h : Q fl S) : W (.ok fl S) Q := (W_ok (Q := Q)).symm ▸ h
theorem w_bk {r : CSs} {Q : Fl → Sto → Prop} (h : Q (.bk ρ) S) : W (seqK C r (.bk ρ) S) Q := (W_ok (Q := Q)).symm ▸ h
theorem w_ct {r : CSs} {Q : Fl → Sto → Prop} (h : Q (.ct ρ) S) : W (seqK C r (.ct ρ) S) Q := (W_ok (Q := Q)).symm ▸ h
theorem v_add {i j : Int} {Q : D → Sto → Prop} (h : Q (.int (i + j)) S) : W (binD .add (.int i) (.int j) S) Q := by
  simpa [binD] using h
theorem v_sub {i j : Int} {Q : D → Sto → Prop} (h : Q (.int (i - j)) S) : W (binD .sub (.int i) (.int j) S) Q := by
  simpa [binD] using h
theorem v_band {i j : Int} {Q : D → Sto → Prop} (h : Q (.int (Builtin.bitAnd i j)) S) : W (binD .band (.int i) (.int j) S) Q := by
  simpa [binD] using h
theorem v_bor {i j : Int} {Q : D → Sto → Prop} (h : Q (.int (Builtin.bitOr i j)) S) : W (binD .bor (.int i) (.int j) S) Q := by
  simpa [binD] using h
theorem v_bxor {i j : Int} {Q : D → Sto → Prop} (h : Q (.int (Builtin.bitXor i j)) S) : W (binD .bxor (.int i) (.int j) S) Q := by
  simpa [binD] using h
theorem v_mul {i j : Int} {Q : D → Sto → Prop} (k : IntMulOk i j) (h : Q (.int (i * j)) S) : W (binD .mul (.int i) (.int j) S) Q := by
  simpa [binD, k] using h
theorem v_fdiv {i j : Int} {Q : D → Sto → Prop} (k : FDivOk i j) (h : Q (.int (i.fdiv j)) S) : W (binD .fdiv (.int i) (.int j) S) Q := by
  simpa [binD, k] using h
theorem v_mod {i j : Int} {Q : D → Sto → Prop} (k : j ≠ 0) (h : Q (.int (i.fmod j)) S) : W (binD .mod (.int i) (.int j) S) Q := by
  simpa [binD, k] using h
theorem v_pow {i j : Int} {Q : D → Sto → Prop} (k : CPow i j) (h : Q (.int (i ^ j.toNat)) S) : W (binD .pow (.int i) (.int j) S) Q := by
  simpa [binD, k] using h
theorem v_shl {i j : Int} {Q : D → Sto → Prop} (k : CPow i j) (h : Q (.int (i * 2 ^ j.toNat)) S) : W (binD .shl (.int i) (.int j) S) Q := by
  simpa [binD, k] using h
theorem v_shr {i j : Int} {Q : D → Sto → Prop} (k : 0 ≤ j) (h : Q (.int (i / 2 ^ j.toNat)) S) : W (binD .shr (.int i) (.int j) S) Q := by
  simpa [binD, k] using h
theorem v_addT {a b : List D} {Q : D → Sto → Prop} (k : a.length + b.length ≤ sizeLine) (h : Q (.tup (a ++ b)) S) : W (binD .add (.tup a) (.tup b) S) Q := by
  simpa [binD, k] using h
theorem v_addS {a b : Str} {Q : D → Sto → Prop} (k : a.length + b.length ≤ sizeLine) (h : Q (.str (a ++ b)) S) : W (binD .add (.str a) (.str b) S) Q := by
  simpa [binD, k] using h
theorem v_addL {i j : Nat} {a b : List D} {Q : D → Sto → Prop} (k1 : S[i]? = some (.lst a)) (k2 : S[j]? = some (.lst b)) (k : a.length + b.length ≤ sizeLine) (h : Q (.ref S.length) (S ++ [.lst (a ++ b)])) : W (binD .add (.ref i) (.ref j) S) Q := by
  simpa [binD, k, k1, k2] using h
theorem v_augAdd {i j : Int} {Q : D → Sto → Prop} (h : Q (.int (i + j)) S) : W (augD .add (.int i) (.int j) S) Q := by
  simpa [augD] using h
theorem v_augSub {i j : Int} {Q : D → Sto → Prop} (h : Q (.int (i - j)) S) : W (augD .sub (.int i) (.int j) S) Q := by
  simpa [augD] using h
theorem v_lt {i j : Int} {Q : D → Sto → Prop} (h : Q (.bl (decide (i < j))) S) : W (cmpD .lt (.int i) (.int j) S) Q := by
  simpa [cmpD, cmpI] using h
theorem v_le {i j : Int} {Q : D → Sto → Prop} (h : Q (.bl (decide (i ≤ j))) S) : W (cmpD .le (.int i) (.int j) S) Q := by
  simpa [cmpD, cmpI] using h
theorem v_gt {i j : Int} {Q : D → Sto → Prop} (h : Q (.bl (decide (j < i))) S) : W (cmpD .gt (.int i) (.int j) S) Q := by
  simpa [cmpD, cmpI] using h
theorem v_ge {i j : Int} {Q : D → Sto → Prop} (h : Q (.bl (decide (j ≤ i))) S) : W (cmpD .ge (.int i) (.int j) S) Q := by
  simpa [cmpD, cmpI] using h
theorem v_eq {i j : Int} {Q : D → Sto → Prop} (h : Q (.bl (decide (i = j))) S) : W (cmpD .eq (.int i) (.int j) S) Q := by
  simpa [cmpD, dEq, scalD, eqSc] using h
theorem v_ne {i j : Int} {Q : D → Sto → Prop} (h : Q (.bl (!decide (i = j))) S) : W (cmpD .ne (.int i) (.int j) S) Q := by
  simpa [cmpD, dEq, scalD, eqSc] using h
theorem v_eqS {i j : Str} {Q : D → Sto → Prop} (h : Q (.bl (decide (i = j))) S) : W (cmpD .eq (.str i) (.str j) S) Q := by
  simpa [cmpD, dEq, scalD, eqSc] using h
theorem v_neS {i j : Str} {Q : D → Sto → Prop} (h : Q (.bl (!decide (i = j))) S) : W (cmpD .ne (.str i) (.str j) S) Q := by
  simpa [cmpD, dEq, scalD, eqSc] using h
theorem v_eqB {i j : Bool} {Q : D → Sto → Prop} (h : Q (.bl (decide (i = j))) S) : W (cmpD .eq (.bl i) (.bl j) S) Q := by
  simpa [cmpD, dEq, scalD, eqSc] using h
theorem v_intI {i : Int} {Q : D → Sto → Prop} (h : Q (.int i) S) : W (fn1D .int (.int i) S) Q := by
  simpa [fn1D] using h
theorem v_intB {b : Bool} {Q : D → Sto → Prop} (h : Q (.int (if b = true then 1 else 0)) S) : W (fn1D .int (.bl b) S) Q := by
  simpa [fn1D] using h
theorem v_abs {i : Int} {Q : D → Sto → Prop} (h : Q (.int (if i < 0 then -i else i)) S) : W (fn1D .abs (.int i) S) Q := by
  simpa [fn1D] using h
theorem v_str {i : Int} {Q : D → Sto → Prop} (k : i.natAbs.log2 < 1920) (h : Q (.str (toString i)) S) : W (fn1D .str (.int i) S) Q := by
  simpa [fn1D, k] using h
theorem v_gcd {i j : Int} {Q : D → Sto → Prop} (h : Q (.int ((Nat.gcd i.natAbs j.natAbs : Nat) : Int)) S) : W (fn2D .gcd (.int i) (.int j) S) Q := by
  simpa [fn2D] using h
theorem v_min2 {i j : Int} {Q : D → Sto → Prop} (h : Q (.int (if j < i then j else i)) S) : W (fn2D .min (.int i) (.int j) S) Q := by
  simpa [fn2D] using h
theorem v_max2 {i j : Int} {Q : D → Sto → Prop} (h : Q (.int (if j > i then j else i)) S) : W (fn2D .max (.int i) (.int j) S) Q := by
  simpa [fn2D] using h
theorem v_idx {a : Nat} {ds : List D} {i : Int} {d : D} {Q : D → Sto → Prop} (k1 : S[a]? = some (.lst ds)) (k2 : atI ds i = some d) (h : Q d S) : W (idxD (.ref a) (.int i) S) Q := by
  simpa [idxD, k1, k2] using h
theorem v_idxT {ds : List D} {i : Int} {d : D} {Q : D → Sto → Prop} (k2 : atI ds i = some d) (h : Q d S) : W (idxD (.tup ds) (.int i) S) Q := by
  simpa [idxD, k2] using h
theorem v_idxF {ds : List D} {i : Int} {d : D} {Q : D → Sto → Prop} (k2 : atI ds i = some d) (h : Q d S) : W (idxD (.fix ds) (.int i) S) Q := by
  simpa [idxD, k2] using h
theorem v_slc {a : Nat} {ds : List D} {lo hi : Option Int} {Q : D → Sto → Prop} (k1 : S[a]? = some (.lst ds)) (h : Q (.ref S.length) (S ++ [.lst (cutD ds lo hi)])) : W (slcD (.ref a) lo hi S) Q := by
  simpa [slcD, k1] using h
theorem v_slcT {ds : List D} {lo hi : Option Int} {Q : D → Sto → Prop} (h : Q (.tup (cutD ds lo hi)) S) : W (slcD (.tup ds) lo hi S) Q := by
  simpa [slcD] using h
theorem v_app {a : Nat} {ds : List D} {v : D} {Q : D → Sto → Prop} (k1 : S[a]? = some (.lst ds)) (k2 : ds.length < sizeLine) (h : Q .non (S.set a (.lst (ds ++ [v])))) : W (appD (.ref a) v S) Q := by
  simpa [appD, withL, k1, k2] using h
theorem v_len {v : RV} {ds : List D} {Q : D → Sto → Prop} (k : sqOf S v = some ds) (h : Q (.int ds.length) S) : W (aggD .len v S) Q := by
  have e : aggD .len v S = .ok (.int ds.length) S := by
    cases v with
    | own xs =>
      have e : aggD .len (.own xs) S = .ok (.int xs.length) S := rfl
      cases k
      exact e
    | val d =>
      cases d with
      | str z => simp [sqOf, lsOf] at k
      | non => simp [sqOf, lsOf] at k
      | bl z => simp [sqOf, lsOf] at k
      | int z => simp [sqOf, lsOf] at k
      | tup z =>
        have e : aggD .len (.val (.tup z)) S = .ok (.int z.length) S := rfl
        cases k
        exact e
      | fix z =>
        have e : aggD .len (.val (.fix z)) S = .ok (.int z.length) S := rfl
        cases k
        exact e
      | ref z =>
        have e : aggD .len (.val (.ref z)) S = may (lenOf S (.val (.ref z))) fun n => .ok (.int n) S := rfl
        unfold lenOf at e
        rw [e, k]
        rfl
  rw [e, W_ok]
  exact h
theorem v_tuple {v : RV} {ds : List D} {Q : D → Sto → Prop} (k : sqOf S v = some ds) (h : Q (.tup ds) S) : W (aggD .tuple v S) Q := by
  simpa [aggD, k] using h
theorem v_sum {v : RV} {ds : List D} {ns : List Int} {Q : D → Sto → Prop} (k : lsOf S v = some ds) (k2 : intsOf ds = some ns) (h : Q (.int ns.sum) S) : W (aggD .sum v S) Q := by
  simpa [aggD, k, k2] using h
theorem v_all {v : RV} {ds : List D} {bs : List Bool} {Q : D → Sto → Prop} (k : lsOf S v = some ds) (k2 : boolsOf ds = some bs) (h : Q (.bl (bs.all id)) S) : W (aggD .all v S) Q := by
  simpa [aggD, k, k2] using h
theorem v_any {v : RV} {ds : List D} {bs : List Bool} {Q : D → Sto → Prop} (k : lsOf S v = some ds) (k2 : boolsOf ds = some bs) (h : Q (.bl (bs.any id)) S) : W (aggD .any v S) Q := by
  simpa [aggD, k, k2] using h
theorem v_max {v : RV} {ds : List D} {ns : List Int} {m : Int} {Q : D → Sto → Prop} (k : lsOf S v = some ds) (k2 : intsOf ds = some ns) (k3 : greatest ns = some m) (h : Q (.int m) S) : W (aggD .max v S) Q := by
  simpa [aggD, k, k2, k3] using h
theorem v_min {v : RV} {ds : List D} {ns : List Int} {m : Int} {Q : D → Sto → Prop} (k : lsOf S v = some ds) (k2 : intsOf ds = some ns) (k3 : least ns = some m) (h : Q (.int m) S) : W (aggD .min v S) Q := by
  simpa [aggD, k, k2, k3] using h
theorem v_set {a : Nat} {ds : List D} {i : Int} {j : Nat} {v : D} {Q : Unit → Sto → Prop} (k1 : S[a]? = some (.lst ds)) (k2 : ixN ds.length i = some j) (h : Q () (S.set a (.lst (ds.set j v)))) : W (setD (.ref a) (.int i) v S) Q := by
  simpa [setD, isDic, withL, k1, k2] using h
theorem v_addB {i : Int} {b : Bool} {Q : D → Sto → Prop} (h : Q (.int (i + if b = true then 1 else 0)) S) : W (binD .add (.int i) (.bl b) S) Q := by
  simpa [binD] using h
theorem v_mulS {a : Str} {k : Int} {Q : D → Sto → Prop} (z : MulOk a k) (h : Q (.str (Txt.mul a k)) S) : W (binD .mul (.str a) (.int k) S) Q := by
  simpa [binD, z] using h
theorem w_dnew {Q : D → Sto → Prop} (h : Q (.ref S.length) (S ++ [.dic []])) : W (evE C .dnew ρ S) Q := by
  simpa [evE] using h
theorem w_dget {a k x : CE} {Q : D → Sto → Prop} (h : W (evE C a ρ S) fun o S1 => W (withD S1 o fun _ _ => (evE C k ρ S1).bind fun y S2 => (evE C x ρ S2).bind fun z S3 => dgetD o y z S3) Q) : W (evE C (.dget a k x) ρ S) Q := by
  simpa [evE] using h
theorem v_dget {a : Nat} {ks : List (Key × D)} {x y : D} {k : Key} {Q : D → Sto → Prop} (k1 : S[a]? = some (.dic ks)) (k2 : keyOf x = some k) (h : Q ((gD ks k).getD y) S) : W (dgetD (.ref a) x y S) Q := by
  simpa [dgetD, withD, k1, k2] using h
theorem v_setK {a : Nat} {ks : List (Key × D)} {x v : D} {k : Key} {Q : Unit → Sto → Prop} (k1 : S[a]? = some (.dic ks)) (k2 : keyOf x = some k) (k3 : ks.length < sizeLine) (h : Q () (S.set a (.dic (pD ks k v)))) : W (setD (.ref a) x v S) Q := by
  simpa [setD, isDic, withD, k1, k2, k3] using h
theorem v_idxK {a : Nat} {ks : List (Key × D)} {x d : D} {k : Key} {Q : D → Sto → Prop} (k1 : S[a]? = some (.dic ks)) (k2 : keyOf x = some k) (k3 : gD ks k = some d) (h : Q d S) : W (idxD (.ref a) x S) Q := by
  cases x <;> first | (cases k2; done) | (cases k2; simpa [idxD, k1, k3] using h)
theorem v_lenD {a : Nat} {ks : List (Key × D)} {Q : D → Sto → Prop} (k1 : S[a]? = some (.dic ks)) (h : Q (.int ks.length) S) : W (aggD .len (.val (.ref a)) S) Q := by
  have e : aggD .len (.val (.ref a)) S = may (lenOf S (.val (.ref a))) fun n => .ok (.int n) S := rfl
  have e2 : lenOf S (.val (.ref a)) = some ks.length := by simp [lenOf, sqOf, lsOf, dicOf, k1]
  rw [e, e2, may_some, W_ok]
  exact h
theorem inD_dic {a : Nat} {ks : List (Key × D)} {x : D} {k : Key} (k1 : S[a]? = some (.dic ks)) (k2 : keyOf x = some k) : inD x (.val (.ref a)) S = some (gD ks k).isSome := by
  simp [inD, sqOf, lsOf, dicOf, k1, k2]
section
variable {α β : Type} {Q : α → Sto → Prop}
theorem w_may {o : Option β} {f : β → Res α} {b : β} (k : o = some b) (h : W (f b) Q) : W (may o f) Q := by
  rw [k, may_some]
  exact h
theorem w_ask {p : Prop} {r : Res α} (k : p) (h : W r Q) : W (ask p r) Q := by
  rw [W_ask]
  exact ⟨k, h⟩
theorem w_ok {a : α} (h : Q a S) : W (.ok a S) Q := by
  rw [W_ok]
  exact h
theorem w_bind {r : Res β} {f : β → Sto → Res α} (h : W r fun b S => W (f b S) Q) : W (r.bind f) Q := by
  rw [W_bind]
  exact h
theorem w_withL {a : Nat} {ds : List D} {f : Nat → List D → Res α} (k : S[a]? = some (.lst ds)) (h : W (f a ds) Q) : W (withL S (.ref a) f) Q := by
  simpa [withL, k] using h
theorem w_withD {a : Nat} {ks : List (Key × D)} {f : Nat → List (Key × D) → Res α} (k : S[a]? = some (.dic ks)) (h : W (f a ks) Q) : W (withD S (.ref a) f) Q := by
  simpa [withD, k] using h
theorem w_if {k : Bool} {A B : Res α} (h1 : k = true → W A Q) (h2 : k = false → W B Q) : W (if k = true then A else B) Q := by
  cases k
  · exact h2 rfl
  · exact h1 rfl
theorem w_ifd {p : Prop} {_ : Decidable p} {A B : Res α} (h1 : p → W A Q) (h2 : ¬p → W B Q) : W (if decide p = true then A else B) Q := w_if (fun h => h1 (of_decide_eq_true h)) fun h => h2 (of_decide_eq_false h)
theorem w_if_T {k : Bool} {A B : Res α} (hk : k = true) (h : W A Q) : W (if k = true then A else B) Q := by
  subst hk
  exact h
theorem w_if_F {k : Bool} {A B : Res α} (hk : k = false) (h : W B Q) : W (if k = true then A else B) Q := by
  subst hk
  exact h
theorem w_if_t {A B : Res α} (h : W A Q) : W (if true = true then A else B) Q := h
theorem w_if_f {A B : Res α} (h : W B Q) : W (if false = true then A else B) Q := h
theorem w_if_nt {A B : Res α} (h : W B Q) : W (if (!true) = true then A else B) Q := h
theorem w_if_nf {A B : Res α} (h : W A Q) : W (if (!false) = true then A else B) Q := h
theorem w_tru_b {b : Bool} {f : Bool → Res α} (h : W (f b) Q) : W (may (tru S (.bl b)) f) Q := h
theorem w_tru_i {i : Int} {f : Bool → Res α} (h : W (f (i != 0)) Q) : W (may (tru S (.int i)) f) Q := h
theorem w_tru_t {ds : List D} {f : Bool → Res α} (h : W (f (!ds.isEmpty)) Q) : W (may (tru S (.tup ds)) f) Q := h
theorem w_tru_r {i : Nat} {ds : List D} {f : Bool → Res α} (k : S[i]? = some (.lst ds)) (h : W (f (!ds.isEmpty)) Q) : W (may (tru S (.ref i)) f) Q := by
  simpa [tru, k] using h
end
/-- a body's end -/
noncomputable def retK (fl : Fl) (S : Sto) : Res D := match fl with
  | .nx _ => .ok .non S
  | .rt d => .ok d S
  | _ => .bad
theorem r_nx {Q : D → Sto → Prop} (h : Q .non S) : W (retK (.nx ρ) S) Q := (W_ok (Q := Q)).symm ▸ h
theorem r_rt {d : D} {Q : D → Sto → Prop} (h : Q d S) : W (retK (.rt d) S) Q := (W_ok (Q := Q)).symm ▸ h
/-- what a def hands back, its names laid out -/
theorem def_w {fn : Fn} {ds : List D} {ρ : En} {Q : D → Sto → Prop} (hl : ds.length = fn.ps) (hN : startE fn.N.length ds = ρ) (h : W (evSs C fn.body ρ S) fun fl S1 => W (retK fl S1) fun d S' => W (gc S d S') Q) : W (callF C fn ds S) Q := by
  subst hN
  refine callF_w hl ?_
  have e : runB C fn ds S = (evSs C fn.body (startE fn.N.length ds) S).bind fun fl S' => retK fl S' := rfl
  rw [e, W_bind]
  exact h
theorem orc_w {T : List Fn} {k f : Nat} {fn : Fn} {ds : List D} {ρ : En} {Q : D → Sto → Prop} (hf : T[f]? = some fn) (hl : ds.length = fn.ps) (hN : startE fn.N.length ds = ρ) (h : W (evSs (orc T k) fn.body ρ S) fun fl S1 => W (retK fl S1) fun d S' => W (gc S d S') Q) : W (orc T (k + 1) f ds S) Q := by
  have e : orc T (k + 1) f ds S = callF (orc T k) fn ds S := by
    show (match T[f]? with
      | some fn => callF (orc T k) fn ds S
      | none => Res.bad) = _
    rw [hf]
  rw [e]
  exact def_w hl hN h
theorem g_self {d : D} {Q : D → Sto → Prop} (h : Q d S) : W (gc S d S) Q := by
  rw [gc_self, W_ok]
  exact h
end PQ

namespace PQ
open PySem PySem.Spec PyProof.Rows L2
local macro_rules
  | `(tactic| mul_fits) => `(tactic| (repeat (first
    | (with_reducible refine PQ.w_scons ?_)
    | ((with_reducible apply PQ.w_var); (focus (exact rfl)))
    | (with_reducible refine PQ.w_bin ?_)
    | (with_reducible refine PQ.w_call ?_)
    | (with_reducible refine PQ.w_cons ?_)
    | (with_reducible refine PQ.w_nil ?_)
    | (with_reducible refine PQ.w_lit ?_)
    | (with_reducible refine PQ.w_cmp ?_)
    | (with_reducible refine PQ.w_idx ?_)
    | (with_reducible refine PQ.w_set ?_)
    | (with_reducible refine PQ.w_ret ?_)
    | (with_reducible refine PQ.w_ite ?_)
    | (with_reducible refine PQ.w_tv ?_)
    | (with_reducible refine PQ.w_tnot ?_)
    | (with_reducible refine PQ.w_nx ?_)
    | (with_reducible refine PQ.w_rt ?_)
    | (with_reducible refine PQ.w_if_t ?_)
    | (with_reducible refine PQ.w_if_f ?_)
    | (with_reducible refine PQ.w_if_nt ?_)
    | (with_reducible refine PQ.w_if_nf ?_)
    | (with_reducible refine PQ.w_tru_b ?_)
    | (with_reducible refine PQ.w_tru_i ?_)
    | (with_reducible refine PQ.w_tru_t ?_)
    | (with_reducible refine PQ.w_ok ?_)
    | (with_reducible refine PQ.w_snil ?_)
    | (with_reducible refine PQ.w_ex ?_)
    | (with_reducible refine PQ.w_agg ?_)
    | (with_reducible refine PQ.w_fn1 ?_)
    | (with_reducible refine PQ.w_fn2 ?_)
    | (with_reducible refine PQ.w_tup ?_)
    | (with_reducible refine PQ.w_alloc ?_)
    | (with_reducible refine PQ.w_disp ?_)
    | (with_reducible refine PQ.w_e ?_)
    | (with_reducible refine PQ.w_q ?_)
    | (with_reducible refine PQ.w_ir ?_)
    | (with_reducible refine PQ.w_for ?_)
    | (with_reducible refine PQ.w_comp ?_)
    | (with_reducible refine PQ.w_compIf ?_)
    | (with_reducible refine PQ.w_and ?_)
    | (with_reducible refine PQ.w_or ?_)
    | (with_reducible refine PQ.w_not ?_)
    | (with_reducible refine PQ.w_ife ?_)
    | (with_reducible refine PQ.w_slc ?_)
    | (with_reducible refine PQ.w_oN ?_)
    | (with_reducible refine PQ.w_isi ?_)
    | (with_reducible refine PQ.w_app ?_)
    | (with_reducible refine PQ.w_ext ?_)
    | (with_reducible refine PQ.w_pop ?_)
    | (with_reducible refine PQ.w_popAt ?_)
    | (with_reducible refine PQ.w_isN ?_)
    | (with_reducible refine PQ.w_notN ?_)
    | (with_reducible refine PQ.w_inr ?_)
    | (with_reducible refine PQ.w_notInr ?_)
    | (with_reducible refine PQ.w_chn ?_)
    | (with_reducible refine PQ.w_tand ?_)
    | (with_reducible refine PQ.w_tor ?_)
    | (with_reducible refine PQ.w_cat ?_)
    | (with_reducible refine PQ.w_sorted ?_)
    | (with_reducible refine PQ.w_list ?_)
    | (with_reducible refine PQ.w_rev ?_)
    | (with_reducible refine PQ.w_setT ?_)
    | (with_reducible refine PQ.w_par ?_)
    | (with_reducible refine PQ.w_sub ?_)
    | (with_reducible refine PQ.w_bk ?_)
    | (with_reducible refine PQ.w_ct ?_)
    | (with_reducible refine PQ.w_brk ?_)
    | (with_reducible refine PQ.w_cont ?_)
    | (with_reducible refine PQ.w_pass ?_)
    | (with_reducible refine PQ.v_add ?_)
    | (with_reducible refine PQ.v_sub ?_)
    | (with_reducible refine PQ.v_band ?_)
    | (with_reducible refine PQ.v_bor ?_)
    | (with_reducible refine PQ.v_bxor ?_)
    | (with_reducible refine PQ.v_augAdd ?_)
    | (with_reducible refine PQ.v_augSub ?_)
    | (with_reducible refine PQ.v_lt ?_)
    | (with_reducible refine PQ.v_le ?_)
    | (with_reducible refine PQ.v_gt ?_)
    | (with_reducible refine PQ.v_ge ?_)
    | (with_reducible refine PQ.v_eq ?_)
    | (with_reducible refine PQ.v_ne ?_)
    | (with_reducible refine PQ.v_eqS ?_)
    | (with_reducible refine PQ.v_neS ?_)
    | (with_reducible refine PQ.v_eqB ?_)
    | (with_reducible refine PQ.v_intI ?_)
    | (with_reducible refine PQ.v_intB ?_)
    | (with_reducible refine PQ.v_abs ?_)
    | (with_reducible refine PQ.v_gcd ?_)
    | (with_reducible refine PQ.v_min2 ?_)
    | (with_reducible refine PQ.v_max2 ?_)
    | (with_reducible refine PQ.v_slcT ?_)
    | (with_reducible refine PQ.w_bind ?_)
    | (with_reducible refine PQ.r_nx ?_)
    | (with_reducible refine PQ.r_rt ?_)
    | (with_reducible refine PQ.g_self ?_)
    | ((with_reducible apply PQ.w_aug); (focus (exact rfl)))
    | (with_reducible refine PQ.w_neg ?_)
    | (with_reducible refine PQ.w_oS ?_)
    | (with_reducible refine PQ.w_listRg ?_)
    | (with_reducible refine PQ.w_rg ?_)
    | (with_reducible refine PQ.w_augS ?_)
    | ((with_reducible apply PQ.v_mul); (focus (first | assumption | exact .of_left (by decide +kernel) | exact .of_right (by decide +kernel))))
    | ((with_reducible apply PQ.v_fdiv); (focus (first | assumption | exact ⟨by omega, PyProof.noPylong_small (by omega)⟩)))
    | ((with_reducible apply PQ.v_mod); (focus (first | assumption | omega)))
    | ((with_reducible apply PQ.v_pow); (focus (first | assumption | (unfold CPow; decide +kernel) | (unfold CPow; omega))))
    | ((with_reducible apply PQ.v_shl); (focus (first | assumption | (unfold CPow; decide +kernel) | (unfold CPow; omega))))
    | ((with_reducible apply PQ.v_shr); (focus (first | assumption | omega)))
    | ((with_reducible apply PQ.v_idx); (focus (first | exact rfl | assumption)); (focus (first | exact rfl | assumption)))
    | ((with_reducible apply PQ.v_idxT); (focus (first | exact rfl | assumption)))
    | ((with_reducible apply PQ.v_idxF); (focus (first | exact rfl | assumption)))
    | ((with_reducible apply PQ.v_len); (focus (first | exact rfl | assumption)))
    | ((with_reducible apply PQ.v_tuple); (focus (first | exact rfl | assumption)))
    | ((with_reducible apply PQ.v_sum); (focus (first | exact rfl | assumption)); (focus (first | exact rfl | assumption)))
    | ((with_reducible apply PQ.v_all); (focus (first | exact rfl | assumption)); (focus (first | exact rfl | assumption)))
    | ((with_reducible apply PQ.v_any); (focus (first | exact rfl | assumption)); (focus (first | exact rfl | assumption)))
    | ((with_reducible apply PQ.v_slc); (focus (first | exact rfl | assumption)))
    | ((with_reducible apply PQ.v_set); (focus (first | exact rfl | assumption)); (focus (first | exact rfl | assumption)))
    | ((with_reducible apply PQ.w_withL); (focus (first | exact rfl | assumption)))
    | ((with_reducible apply PQ.v_app); (focus (first | exact rfl | assumption)); (focus (first | assumption | exact Nat.lt_of_lt_of_le (Nat.lt_succ_self _) (Nat.le_of_ble_eq_true rfl) | omega)))
    | ((with_reducible apply PQ.v_addT); (focus (first | assumption | exact Nat.le_of_ble_eq_true rfl | omega)))
    | ((with_reducible apply PQ.v_addS); (focus (first | assumption | exact Nat.le_of_ble_eq_true rfl | omega)))
    | ((with_reducible apply PQ.v_addL); (focus (first | exact rfl | assumption)); (focus (first | exact rfl | assumption)); (focus (first | assumption | exact Nat.le_of_ble_eq_true rfl | omega)))
    | ((with_reducible apply PQ.w_tru_r); (focus (first | exact rfl | assumption)))
    | ((with_reducible apply PQ.w_if_T); (focus (exact rfl)))
    | ((with_reducible apply PQ.w_if_F); (focus (exact rfl)))
    | ((with_reducible apply PQ.w_may); (focus (exact rfl)))
    | ((with_reducible refine ⟨_, rfl, ?_⟩))
    | ((with_reducible apply PQ.w_augK); (focus (first | exact rfl | assumption)); (focus (first | exact rfl | assumption)))
    | ((with_reducible refine ⟨_, _, rfl, rfl, ?_, ?_⟩); (focus (first | assumption | (unfold bd62; omega) | (unfold RgOk; omega))))
    | ((with_reducible refine ⟨?_, ?_⟩); (focus (first | assumption | exact Nat.le_of_ble_eq_true rfl | omega))))))
/-! ### the draws: every law has them -/
/-- .. from the place where the number is read -/
def bDraw2 : CSs := (.cons (.augS (.var 0) (.lit (.int 1)) .add (.lit (.int 1)))
  (.cons (.ite (.v (.cmp .ge (.var 3) (.bin .mul (.lit (.int 2)) (.bin .pow (.lit (.int 10)) (.lit (.int 18))))))
  (.cons (.set (.nm 2) (.bin .mod (.fn1 .int (.bin .fdiv (.var 3) (.lit (.int 2)))) (.bin .shl (.lit (.int 1)) (.lit (.int 6000)))))
  (.cons (.sub (.var 0) (.lit (.int 2)) (.bin .fdiv (.var 2) (.var 1)))
  (.cons (.ret (.bin .mod (.fn1 .int (.var 2)) (.var 1)))
  .nil)))
  .nil)
  (.cons (.sub (.var 0) (.lit (.int 3)) (.bin .mod (.fn1 .int (.bin .add (.bin .add (.bin .add (.bin .mul (.idx (.var 0) (.lit (.int 3))) (.lit (.int 48271))) (.bin .mul (.bin .mod (.fn1 .int (.var 3)) (.lit (.int 2147483629))) (.lit (.int 16807)))) (.bin .mul (.idx (.var 0) (.lit (.int 1))) (.lit (.int 69621)))) (.lit (.int 11)))) (.lit (.int 2147483647))))
  (.cons (.ret (.bin .mod (.fn1 .int (.bin .fdiv (.idx (.var 0) (.lit (.int 3))) (.lit (.int 16)))) (.var 1)))
  .nil))))
def bDraw : CSs := (.cons (.ite (.v (.cmp .gt (.idx (.var 0) (.lit (.int 2))) (.lit (.int 0))))
  (.cons (.set (.nm 2) (.idx (.var 0) (.lit (.int 2))))
  (.cons (.sub (.var 0) (.lit (.int 2)) (.bin .fdiv (.var 2) (.var 1)))
  (.cons (.ret (.bin .mod (.fn1 .int (.var 2)) (.var 1)))
  .nil)))
  .nil)
  (.cons (.set (.nm 3) (.lit (.int 0)))
  (.cons (.ite (.v (.cmp .lt (.idx (.var 0) (.lit (.int 1))) (.agg .len (.e (.idx (.var 0) (.lit (.int 0)))))))
  (.cons (.set (.nm 4) (.idx (.idx (.var 0) (.lit (.int 0))) (.idx (.var 0) (.lit (.int 1)))))
  (.cons (.set (.nm 3) (.bin .add (.bin .mul (.lit (.int 2)) (.fn1 .abs (.var 4))) (.fn1 .int (.cmp .lt (.var 4) (.lit (.int 0))))))
  .nil))
  .nil)
  bDraw2)))
/-- the store of a law: the script's ints, the place and the two seeds of the draws; then the law's own -/
structure DS where
  cells : List Int
  p : Int
  r : Int
  s : Int
  p0 : 0 ≤ p
def DS.st (d : DS) (R : Sto) : Sto := .lst (d.cells.map .int) :: .lst [.ref 0, .int d.p, .int d.r, .int d.s] :: R
theorem draw_w {C : Orc} {x : Str} {N : List Str} {d : DS} {R : Sto} {m : Int} {Q : D → Sto → Prop} (hN : N.length = 5) (h1 : 0 < m) (h2 : m < 1073741824) (h : ∀ (y : Int) (d' : DS), 0 ≤ y → y < m → Q (.int y) (d'.st R)) :
    W (callF C ⟨x, N, 2, bDraw⟩ [.ref 1, .int m] (d.st R)) Q := by
  have fd : ∀ i, FDivOk i m := fun i => ⟨by omega, PyProof.noPylong_small (by omega)⟩
  have fd2 : ∀ i, FDivOk i 2 := fun i => ⟨by omega, PyProof.noPylong_small (by omega)⟩
  have fd16 : ∀ i, FDivOk i 16 := fun i => ⟨by omega, PyProof.noPylong_small (by omega)⟩
  have q1 : ∀ i : Int, 0 ≤ i.fmod m := fun i => Int.fmod_nonneg_of_pos i h1
  have q2 : ∀ i : Int, i.fmod m < m := fun i => Int.fmod_lt_of_pos i h1
  have m1 : ∀ i, IntMulOk 2 i := fun i => .of_left (by decide +kernel)
  have m2 : ∀ i, IntMulOk i 48271 := fun i => .of_right (by decide +kernel)
  have m3 : ∀ i, IntMulOk i 16807 := fun i => .of_right (by decide +kernel)
  have m4 : ∀ i, IntMulOk i 69621 := fun i => .of_right (by decide +kernel)
  have c1 : CPow 10 18 := by unfold CPow; decide +kernel
  have c2 : CPow 1 6000 := by unfold CPow; decide +kernel
  have hm : m ≠ 0 := by omega
  have hs : (1 * 2 ^ Int.toNat 6000 : Int) ≠ 0 := by
    rw [Int.one_mul]
    exact Int.ne_of_gt (Int.pow_pos (by decide))
  obtain ⟨cells, p, r, s, p0⟩ := d
  refine def_w (ρ := [some (.ref 1), some (.int m), none, none, none]) rfl (by rw [hN]; rfl) ?_
  simp only [bDraw, DS.st]
  mul_fits
  refine w_ifd (fun k => ?_) fun k => ?_
  · mul_fits
    rw [gc_same (by simp)]
    mul_fits
    exact h _ ⟨cells, p, _, s, p0⟩ (q1 _) (q2 _)
  have tail : ∀ (z : Int) (o : Option D), W (evSs C bDraw2 [some (.ref 1), some (.int m), none, some (.int z), o] (.lst (cells.map .int) :: .lst [.ref 0, .int p, .int r, .int s] :: R)) fun fl S' => W (retK fl S') fun d S'' => W (gc (.lst (cells.map .int) :: .lst [.ref 0, .int p, .int r, .int s] :: R) d S'') Q := by
    intro z o
    simp only [bDraw2]
    mul_fits
    refine w_ifd (fun k => ?_) fun k => ?_
    · mul_fits
      rw [gc_same (by simp)]
      mul_fits
      exact h _ ⟨cells, p + 1, _, s, by omega⟩ (q1 _) (q2 _)
    · mul_fits
      rw [gc_same (by simp)]
      mul_fits
      exact h _ ⟨cells, p + 1, r, _, by omega⟩ (q1 _) (q2 _)
  mul_fits
  refine w_ifd (fun k => ?_) fun k => ?_
  · have hl : p.toNat < cells.length := by rw [List.length_map] at k; omega
    have hc : atI (List.map D.int cells) p = some (.int (cells[p.toNat])) := by
      unfold atI ixN
      rw [if_pos p0, if_pos k]
      simp [hl]
    mul_fits
    exact tail _ _
  · mul_fits
    exact tail _ _
theorem gc_out {S S' : Sto} {d : D} (h : ¬below S.length d) : gc S d S' = .ok d S' := by
  unfold gc
  rw [if_neg fun z => h z.1]
def bBegin : CSs := (.cons (.ret (.alloc (.disp (.cons (.alloc (.comp [1] (.nm 1) (.r (.e (.var 0))) (.fn1 .int (.var 1)))) (.cons (.lit (.int 0)) (.cons (.lit (.int 0)) (.cons (.lit (.int 5)) .nil)))))))
  .nil)
theorem begin_w {C : Orc} {x : Str} {N : List Str} {ns : List Int} {Q : D → Sto → Prop} (hN : N.length = 2) (hl : ns.length ≤ 63) (h : Q (.ref 1) (DS.st ⟨ns, 0, 0, 5, by decide⟩ [])) : W (callF C ⟨x, N, 1, bBegin⟩ [.fix (ns.map .int)] []) Q := by
  refine def_w (ρ := [some (.fix (ns.map .int)), none]) rfl (by rw [hN]; rfl) ?_
  simp only [bBegin]
  mul_fits
  refine ⟨by rw [List.length_map]; exact Nat.le_trans hl (Nat.le_of_ble_eq_true rfl), ?_⟩
  refine loopQ_w (fun ds r S => S = [] ∧ r ++ ds = ns.map .int) (fun d ds r S i => ⟨trivial, ?_⟩) (fun r S i => ⟨trivial, ?_⟩) _ _ ⟨rfl, rfl⟩
  · obtain ⟨rfl, i⟩ := i
    have : d ∈ ns.map D.int := by rw [← i]; simp
    obtain ⟨j, _, rfl⟩ := List.mem_map.mp this
    mul_fits
    exact ⟨rfl, by rw [← i]; simp⟩
  · obtain ⟨rfl, i⟩ := i
    rw [List.append_nil] at i
    subst i
    mul_fits
    rw [gc_out (by simp [below])]
    mul_fits
    exact h
end PQ

/-! The head's facts, with the module's values. -/
namespace PQ
open PySem PySem.Spec PyProof.Rows L2
mutual
def dB (K : PySem.W.Frag) : D → Value → Bool
  | .non, .none => true
  | .bl b, .bool c => b == c
  | .int i, .int j _ => decide (i = j)
  | .str x, .str y _ => decide (x = y)
  | .tup ds, .ref a => (match K.lookup a with
    | some ⟨.type c, none, .seq its _, _⟩ => decide (c = "tuple") && (decide (its.size ≤ sizeLine) && (decide (ds.length ≤ sizeLine) && dsB K ds its.toList))
    | _ => false)
  | _, _ => false
def dsB (K : PySem.W.Frag) : List D → List Value → Bool
  | [], [] => true
  | d :: ds, u :: us => dB K d u && dsB K ds us
  | _, _ => false
end
mutual
theorem dB_ok {K : PySem.W.Frag} : ∀ (d : D) (u : Value), dB K d u = true → ∃ v, RelV v u ∧ ∀ μ H, Rp K μ H d v
  | .non, .none, _ => ⟨.non, rfl, fun _ _ => rfl⟩
  | .bl b, .bool c, h => ⟨.bl b, by
    have : b = c := by simpa [dB] using h
    subst this
    rfl, fun _ _ => rfl⟩
  | .int i, .int j t, h => ⟨.int i, ⟨t, by
    have : i = j := by simpa [dB] using h
    rw [this]⟩, fun _ _ => rfl⟩
  | .str x, .str y t, h => ⟨.str x, ⟨t, by
    have : x = y := by simpa [dB] using h
    rw [this]⟩, fun _ _ => rfl⟩
  | .tup ds, .ref a, h => by
    unfold dB at h
    split at h
    · rename_i c its n sl e
      obtain ⟨h1, h⟩ := Bool.and_eq_true_iff.mp h
      obtain ⟨h2, h⟩ := Bool.and_eq_true_iff.mp h
      obtain ⟨h3, h⟩ := Bool.and_eq_true_iff.mp h
      obtain ⟨vs, q1, q2⟩ := dsB_ok ds its.toList h
      exact ⟨.ref a, rfl, fun μ H => ⟨a, vs, rfl, .inr ⟨_, its, n, e, congrArg Value.type (of_decide_eq_true h1), rfl, rfl, of_decide_eq_true h2, q1⟩, q2 μ H, of_decide_eq_true h3⟩⟩
    · cases h
theorem dsB_ok {K : PySem.W.Frag} : ∀ (ds : List D) (us : List Value), dsB K ds us = true → ∃ vs, Vals vs us ∧ ∀ μ H, RpA K μ H ds vs
  | [], [], _ => ⟨[], .nil, fun _ _ => rfl⟩
  | d :: ds, u :: us, h => by
    obtain ⟨h1, h2⟩ := Bool.and_eq_true_iff.mp h
    obtain ⟨v, a1, a2⟩ := dB_ok d u h1
    obtain ⟨vs, b1, b2⟩ := dsB_ok ds us h2
    exact ⟨v :: vs, .cons a1 b1, fun μ H => .cons (a2 μ H) (b2 μ H)⟩
end
def gB (K : PySem.W.Frag) (q : Str × Gv) : Bool := match q.2 with
  | .con d => (match PySem.W.nsIn K mainGlobals q.1 with
    | some (some u) => dB K d u
    | _ => false)
  | .fn id => He.eqO (PySem.W.nsIn K mainGlobals q.1) (some (some (.builtin id)))
theorem gB_ok {K : PySem.W.Frag} {h : Heap} {mg : Str → Option Value} (X : K.In h) (G : h.Ns mainGlobals mg) {Gs : List (Str × Gv)} (c : Gs.all (gB K) = true) : ∀ x g, (x, g) ∈ Gs → GvOk K mg x g := fun x g hx => by
  have c1 := List.all_eq_true.mp c _ hx
  cases g with
  | con d =>
    have c1 : (match PySem.W.nsIn K mainGlobals x with
      | some (some u) => dB K d u
      | _ => false) = true := c1
    split at c1
    · rename_i u e
      obtain ⟨v, h1, h2⟩ := dB_ok d u c1
      exact ⟨v, u, PySem.W.mg_of X G e, h1, h2⟩
    · cases c1
  | fn id => exact PySem.W.mg_of X G (He.eqO_ok c1)
def obP (n : Nat) (fa : List He.Fa) (fn : List He.DefD) (Gs : List (Str × Gv)) (g : Addr → Option Obj) : He.AlD × Bool := (He.obsDG n fa fn g, Gs.all (gB (He.frG g (He.asD g n))))
def hookP (n : Nat) (fa : List He.Fa) (fn : List He.DefD) (Gs : List (Str × Gv)) : PySem.W.Hook where
  α := He.AlD × Bool
  obs := fun s => obP n fa fn Gs s.heap.get?
  val := fun _ => (He.valD fn, true)
  says := fun _ h => ∃ K : PySem.W.Frag, K.In h ∧ He.SaysD fa fn K ∧ Gs.all (gB K) = true
  of := fun _ _ e => ⟨_, He.frG_in, congrArg (fun z : He.AlD × Bool => z.1) e, congrArg (fun z : He.AlD × Bool => z.2) e⟩
  keeps := fun _ _ _ ⟨K, hK, c⟩ k => ⟨K, PySem.W.Frag.In.keeps hK k, c⟩
theorem obP_eq {n : Nat} {fa : List He.Fa} {fn : List He.DefD} {Gs : List (Str × Gv)} {g : Addr → Option Obj} {s : Shared} (h : ∀ a, g a = s.heap.get? a) : obP n fa fn Gs g = (hookP n fa fn Gs).obs s := by
  have e : g = s.heap.get? := funext h
  rw [e] <;> rfl
end PQ

namespace PQ
open PySem PySem.Spec PyProof.Rows L2
theorem le64 {n : Nat} (h : n ≤ 64) : n ≤ sizeLine := Nat.le_trans h (Nat.le_of_ble_eq_true rfl)
end PQ

/-! Helps that more than one law asks for. -/
namespace PQ
open PySem PySem.Spec PyProof.Rows L2
theorem while_w {C : Orc} {t : CT} {b : CSs} {Q : Fl → Sto → Prop} (I : Nat → En → Sto → Prop)
    (h : ∀ n ρ S, I n ρ S → W (evT C t ρ S) fun c S1 => (c = true → ∃ m, n = m + 1 ∧ W (evSs C b ρ S1) fun fl S2 => ∃ ρ', (fl = .nx ρ' ∨ fl = .ct ρ') ∧ I m ρ' S2) ∧ (c = false → Q (.nx ρ) S1)) : ∀ (n fuel : Nat) ρ S, n < fuel → I n ρ S → W (whileS (evT C t) (evSs C b) fuel ρ S) Q
  | n, 0, _, _, hf, _ => by omega
  | n, fuel + 1, ρ, S, hf, hi => by
    rw [whileS, W_bind]
    refine W_mono (h n ρ S hi) fun c S1 hc => ?_
    cases c with
    | false =>
      rw [if_neg (by decide), W_ok]
      exact hc.2 rfl
    | true =>
      obtain ⟨m, rfl, hb⟩ := hc.1 rfl
      rw [if_pos rfl, W_bind]
      refine W_mono hb fun fl S2 ⟨ρ', e, k⟩ => ?_
      rcases e with e | e <;> subst e <;> exact while_w I h m fuel ρ' S2 (by omega) k
theorem get_end (S : Sto) (o : Ob) : (S ++ [o])[S.length]? = some o := by simp
theorem set_end (S : Sto) (o p : Ob) : (S ++ [o]).set S.length p = S ++ [p] := by simp
theorem get_pre {S R : Sto} {a : Nat} {o : Ob} (h : S[a]? = some o) : (S ++ R)[a]? = some o := by
  rw [List.getElem?_append_left (List.getElem?_eq_some_iff.mp h).1]
  exact h
theorem ints_map (ns : List Int) : intsOf (ns.map D.int) = some ns := by
  induction ns with
  | nil => rfl
  | cons x xs ih => simp [intsOf, ih]
theorem at_last (l : List D) (d : D) : atI (l ++ [d]) (-1) = some d := by
  unfold atI ixN
  rw [if_neg (by omega), if_pos (by simp; omega)]
  have e : ((-1 : Int) + ((l ++ [d]).length : Int)).toNat = l.length := by simp; omega
  rw [e]
  simp
theorem sum_nn : ∀ ns : List Int, (∀ n ∈ ns, 0 ≤ n) → 0 ≤ ns.sum
  | [], _ => by simp
  | n :: ns, h => by
    have := h n (by simp)
    have := sum_nn ns fun x hx => h x (by simp [hx])
    rw [List.sum_cons]
    omega
theorem rgD_get {i j : Int} {d : D} (h : d ∈ rgD i j) : ∃ x, d = .int x ∧ i ≤ x ∧ x < j := by
  obtain ⟨q, hq, rfl⟩ := List.mem_map.mp h
  rw [List.mem_range] at hq
  exact ⟨_, rfl, by omega, by omega⟩
def Grown (S S' : Sto) : Prop := ∃ g, S' = S ++ g
theorem bools_map (bs : List Bool) : boolsOf (bs.map D.bl) = some bs := by
  induction bs with
  | nil => rfl
  | cons x xs ih => simp [boolsOf, ih]
theorem le_size {n : Nat} (h : n ≤ 100000) : n ≤ sizeLine := Nat.le_trans h (Nat.le_of_ble_eq_true rfl)
theorem gc_st {d d' : DS} {R g : Sto} {e : D} {Q : D → Sto → Prop} (h1 : below (R.length + 2) e → Q e (d'.st R)) (h2 : Q e (d'.st (R ++ g))) : W (gc (d.st R) e (d'.st (R ++ g))) Q := by
  unfold gc
  split
  · rename_i sf
    rw [W_ok]
    have : (d'.st (R ++ g)).take (d.st R).length = d'.st R := by
      show List.take (R.length + 2) (_ :: _ :: (R ++ g)) = _
      rw [List.take_succ_cons, List.take_succ_cons, List.take_left' rfl]
      rfl
    rw [this]
    exact h1 sf.1
  · rw [W_ok]
    exact h2
theorem st_len {d : DS} {R : Sto} : (d.st R).length = R.length + 2 := rfl
theorem st_app {d : DS} {R g : Sto} : d.st R ++ g = d.st (R ++ g) := rfl
theorem st_get {d : DS} {R : Sto} {b : Nat} : (d.st R)[b + 2]? = R[b]? := rfl
theorem w_es {C : Orc} {es : CEs} {ρ : En} {S S1 : Sto} {ds : List D} {Q : List D → Sto → Prop} (he : evEs C es ρ S = .ok ds S1) (h : Q ds S1) : W (evEs C es ρ S) Q := by
  rw [he, W_ok]
  exact h
def Good1 (fl : Fl) (S : Sto) : Prop := W (retK fl S) fun d S' => W (gc [] d S') fun e _ => e = .bl true
theorem good1 {S : Sto} : Good1 (.rt (.bl true)) S := by
  refine r_rt ?_
  rw [show S = [] ++ S from rfl, gc_app (by simp [below])]
  exact w_ok rfl
theorem st_end {d : DS} {R : Sto} {o : Ob} : (d.st (R ++ [o]))[R.length + 2]? = some o := by rw [st_get]; exact get_end R o
theorem fdiv_small {c : Int} (h0 : c ≠ 0) (h : c.natAbs < 2 ^ 8000) (n : Int) : FDivOk n c := ⟨h0, PyProof.noPylong_of_log2 (by
  have h1 : c.natAbs ≠ 0 := by omega
  have := (Nat.log2_lt h1).mpr h
  omega)⟩
theorem mul_bd {a b : Int} {m n : Nat} (ha : a.natAbs < 2 ^ m) (hb : b.natAbs < 2 ^ n) : (a * b).natAbs < 2 ^ (m + n) := by
  rw [Int.natAbs_mul, Nat.pow_add]
  exact Nat.mul_lt_mul_of_lt_of_le ha (Nat.le_of_lt hb) (Nat.two_pow_pos _)
theorem bd_mono {a : Int} {m n : Nat} (h : a.natAbs < 2 ^ m) (hmn : m ≤ n) : a.natAbs < 2 ^ n := Nat.lt_of_lt_of_le h (Nat.pow_le_pow_right (by decide) hmn)
theorem add_bd {a b : Int} {m : Nat} (ha : a.natAbs < 2 ^ m) (hb : b.natAbs < 2 ^ m) : (a + b).natAbs < 2 ^ (m + 1) := by
  rw [Nat.pow_succ]
  omega
theorem sub_bd {a b : Int} {m : Nat} (ha : a.natAbs < 2 ^ m) (hb : b.natAbs < 2 ^ m) : (a - b).natAbs < 2 ^ (m + 1) := by
  rw [Nat.pow_succ]
  omega
theorem mul_okb {a b : Int} {m n : Nat} (ha : a.natAbs < 2 ^ m) (hb : b.natAbs < 2 ^ n) (h : m + n ≤ 134217728) : IntMulOk a b := (mulx_ok ha hb h).ok
section
variable {S : Sto} {Q : D → Sto → Prop}
theorem v_idxS {z : Str} {i : Int} {c : Nat} (k : z.length ≤ sizeLine) (k2 : atI z.cps.toList i = some c) (h : Q (.str ⟨#[c]⟩) S) : W (idxD (.str z) (.int i) S) Q := by
  simpa [idxD, k, k2] using h
theorem v_mulL {i : Nat} {n : Int} {a : List D} (k1 : S[i]? = some (.lst a)) (k2 : -(2 ^ 63) ≤ n ∧ n < 2 ^ 63 ∧ a.length * n.toNat ≤ sizeLine) (h : Q (.ref S.length) (S ++ [.lst (List.replicate n.toNat a).flatten])) : W (binD .mul (.ref i) (.int n) S) Q := by
  simp only [binD, k1, W_ask, W_ok]
  exact ⟨k2, h⟩
theorem v_ext {a : Nat} {ds es : List D} {r : RV} (k1 : S[a]? = some (.lst ds)) (k2 : trOf S r = some es) (k3 : ds.length + es.length ≤ sizeLine) (h : Q .non (S.set a (.lst (ds ++ es)))) : W (extD (.ref a) r S) Q := by
  simp only [extD, withL, k1, k2, may_some, if_pos k3, W_ok]
  exact h
theorem v_pop {a : Nat} {ds : List D} {d : D} (k1 : S[a]? = some (.lst ds)) (k2 : ds[ds.length - 1]? = some d) (h : Q d (S.set a (.lst ds.dropLast))) : W (popD (.ref a) S) Q := by
  simp only [popD, withL, k1, k2, may_some, W_ok]
  exact h
theorem v_popAt {a : Nat} {ds : List D} {i : Int} {k : Nat} {d : D} (k1 : S[a]? = some (.lst ds)) (k0 : -(2 ^ 63) ≤ i ∧ i < 2 ^ 63) (k2 : seqIndex? i ds.length = some k) (k3 : ds[k]? = some d) (h : Q d (S.set a (.lst (ds.eraseIdx k)))) : W (popAtD (.ref a) (.int i) S) Q := by
  simp only [popAtD, withL, k1, if_pos k0, k2, k3, may_some, W_ok]
  exact h
end
end PQ

/-! A walk that may go back early. -/
namespace PQ
open PySem PySem.Spec PyProof.Rows L2
theorem loopS_r {C : Sto → Prop} {f : D → En → Sto → Res Fl} {Q : Fl → Sto → Prop} (I : List D → En → Sto → Prop)
    (h : ∀ d ds ρ S, I (d :: ds) ρ S → C S ∧ W (f d ρ S) fun fl S' => match fl with
      | .nx ρ' => I ds ρ' S'
      | .ct ρ' => I ds ρ' S'
      | .bk ρ' => Q (.nx ρ') S'
      | .rt x => Q (.rt x) S')
    (h0 : ∀ ρ S, I [] ρ S → C S ∧ Q (.nx ρ) S) : ∀ ds ρ S, I ds ρ S → W (loopS C f ds ρ S) Q
  | [], ρ, S, i => by
    rw [loopS, W_ask, W_ok]
    exact h0 ρ S i
  | d :: ds, ρ, S, i => by
    rw [loopS, W_ask, W_bind]
    obtain ⟨k1, k2⟩ := h d ds ρ S i
    refine ⟨k1, W_mono k2 fun fl S' k => ?_⟩
    cases fl with
    | nx ρ' => exact loopS_r I h h0 ds ρ' S' k
    | ct ρ' => exact loopS_r I h h0 ds ρ' S' k
    | bk ρ' => exact (W_ok (Q := Q)).symm ▸ k
    | rt x => exact (W_ok (Q := Q)).symm ▸ k
end PQ

/-! Numbers and tuples alone; more helps. -/
namespace PQ
open PySem PySem.Spec PyProof.Rows L2
theorem v_lenS {S : Sto} {z : Str} {Q : D → Sto → Prop} (k : z.length ≤ sizeLine) (h : Q (.int z.length) S) : W (aggD .len (.val (.str z)) S) Q := by
  have e : aggD .len (.val (.str z)) S = .ok (.int z.length) S := by
    show (if z.length ≤ sizeLine then _ else _) = _
    rw [if_pos k]
  rw [e, W_ok]
  exact h
theorem rgD0 (n : Nat) : rgD 0 (n : Int) = (List.range n).map fun (k : Nat) => D.int (k : Int) := by simp [rgD]
abbrev natD (n : Nat) : D := .int (n : Int)
theorem at_map {α : Type} (f : α → D) (l : List α) (k : Nat) (h : k < l.length) : atI (l.map f) (k : Int) = some (f l[k]) := by
  unfold atI ixN
  rw [if_pos (by omega), if_pos (by simp; omega)]
  simp [h]
def gI (l : List Int) (k : Nat) : Int := l.getD k 0
theorem at_ints (l : List Int) (k : Nat) (h : k < l.length) : atI (l.map D.int) (k : Int) = some (.int (gI l k)) := by
  rw [at_map _ _ _ h]
  simp [gI, h]
theorem ix_nat {n k : Nat} (h : k < n) : ixN n (k : Int) = some k := by
  unfold ixN
  rw [if_pos (by omega), if_pos (by omega)]
  simp
theorem at_nat (l : List D) (k : Nat) (h : k < l.length) : atI l (k : Int) = some l[k] := by
  unfold atI
  rw [ix_nat h]
  simp [h]
theorem get_mid (S R : Sto) (o : Ob) : (S ++ [o] ++ R)[S.length]? = some o := by simp
theorem set_mid (S R : Sto) (o p : Ob) : (S ++ [o] ++ R).set S.length p = S ++ [p] ++ R := by
  rw [List.set_append_left _ _ (by simp), set_end]
theorem get_far {S R : Sto} {o p : Ob} {b : Nat} {q : Ob} (h : S.length < b) (e : (S ++ [o] ++ R)[b]? = some q) : (S ++ [p] ++ R)[b]? = some q := by
  rw [List.getElem?_append_right (by simp; omega)] at e ⊢
  simpa using e
/-- numbers and tuples of such -/
inductive It : D → Prop
  | int (i : Int) : It (.int i)
  | tup (ds : List D) (h : ∀ d ∈ ds, It d) : It (.tup ds)
theorem belows_iff {n : Nat} : ∀ {ds : List D}, belows n ds ↔ ∀ d ∈ ds, below n d
  | [] => by simp [belows]
  | d :: ds => by simp [belows, belows_iff (ds := ds)]
theorem it_below {n : Nat} {d : D} (h : It d) : below n d := by
  induction h with
  | int i => simp [PQ.below]
  | tup ds h ih =>
    show belows n ds
    exact belows_iff.mpr ih
theorem it_ints (l : List Int) : It (.tup (l.map D.int)) := .tup _ fun d hd => by
  obtain ⟨i, _, rfl⟩ := List.mem_map.mp hd
  exact .int i
end PQ

/-! Walks over rows of things of one kind. -/
namespace PQ
open PySem PySem.Spec PyProof.Rows L2
def All2 {α β : Type} (P : α → β → Prop) : List α → List β → Prop
  | [], [] => True
  | a :: as, b :: bs => P a b ∧ All2 P as bs
  | _, _ => False
section
variable {α β : Type} {P : α → β → Prop}
theorem All2.len : ∀ {l : List α} {m : List β}, All2 P l m → m.length = l.length
  | [], [], _ => rfl
  | _ :: as, _ :: bs, h => by rw [List.length_cons, List.length_cons, All2.len h.2]
  | [], _ :: _, h => h.elim
  | _ :: _, [], h => h.elim
theorem All2.imp {P' : α → β → Prop} (k : ∀ a b, P a b → P' a b) : ∀ {l : List α} {m : List β}, All2 P l m → All2 P' l m
  | [], [], _ => trivial
  | _ :: as, _ :: bs, h => ⟨k _ _ h.1, All2.imp k h.2⟩
  | [], _ :: _, h => h.elim
  | _ :: _, [], h => h.elim
theorem All2.mem : ∀ {l : List α} {m : List β}, All2 P l m → ∀ b ∈ m, ∃ a ∈ l, P a b
  | [], [], _, _, hb => nomatch hb
  | a :: as, b :: bs, h, x, hx => by
    rcases List.mem_cons.mp hx with rfl | hx
    · exact ⟨a, List.mem_cons_self, h.1⟩
    · obtain ⟨y, h1, h2⟩ := All2.mem h.2 x hx
      exact ⟨y, List.mem_cons_of_mem _ h1, h2⟩
  | [], _ :: _, h, _, _ => h.elim
  | _ :: _, [], h, _, _ => h.elim
theorem All2.map {γ : Type} {f : α → γ} {g : β → γ} : ∀ {l : List α} {m : List β}, All2 (fun a b => g b = f a) l m → m.map g = l.map f
  | [], [], _ => rfl
  | _ :: as, _ :: bs, h => by rw [List.map_cons, List.map_cons, h.1, All2.map h.2]
  | [], _ :: _, h => h.elim
  | _ :: _, [], h => h.elim
variable {C : Sto → Prop} {f : D → Sto → Res (Option D)} {Q : List D → Sto → Prop}
theorem loopQ_e (enc : α → D) (e : β → D) (P : α → β → Prop) (I : Sto → Prop) (l : List α) (h : ∀ x ∈ l, ∀ S, I S → C S ∧ W (f (enc x) S) fun o S' => ∃ y, o = some (e y) ∧ I S' ∧ P x y) (q : ∀ ys S, All2 P l ys → I S → C S ∧ Q (ys.map e) S) (S : Sto) (i : I S) : W (loopQ C f (l.map enc) S) Q := by
  induction l generalizing S Q with
  | nil =>
    rw [List.map_nil, loopQ, W_ask, W_ok]
    exact q [] S trivial i
  | cons x l ih =>
    rw [List.map_cons, loopQ, W_ask, W_bind]
    obtain ⟨k1, k2⟩ := h x List.mem_cons_self S i
    refine ⟨k1, W_mono k2 fun o S' ⟨y, eo, i', p⟩ => ?_⟩
    subst eo
    rw [W_bind]
    refine ih (fun z hz => h z (List.mem_cons_of_mem _ hz)) (Q := fun r S2 => W (.ok (e y :: r) S2) Q) (fun ys S2 a i2 => ?_) S' i'
    obtain ⟨c1, c2⟩ := q (y :: ys) S2 ⟨p, a⟩ i2
    exact ⟨c1, (W_ok (Q := Q)).symm ▸ c2⟩
theorem loopQ_m (enc : α → D) (g : α → D) (I : Sto → Prop) (l : List α) (h : ∀ x ∈ l, ∀ S, I S → C S ∧ W (f (enc x) S) fun o S' => o = some (g x) ∧ I S') (q : ∀ S, I S → C S ∧ Q (l.map g) S) (S : Sto) (i : I S) : W (loopQ C f (l.map enc) S) Q := by
  refine loopQ_e enc (fun d : D => d) (fun a b => b = g a) I l (fun x hx S i => ⟨(h x hx S i).1, W_mono (h x hx S i).2 fun o S' ⟨e1, e2⟩ => ⟨g x, e1, e2, rfl⟩⟩) (fun ys S a i => ?_) S i
  have := All2.map (f := g) (g := fun d : D => d) a
  rw [this]
  exact q S i
theorem loopQ_f (enc : α → D) (p : α → Bool) (g : α → D) (I : Sto → Prop) (l : List α) (h : ∀ x ∈ l, ∀ S, I S → C S ∧ W (f (enc x) S) fun o S' => o = (if p x = true then some (g x) else none) ∧ I S') (q : ∀ S, I S → C S ∧ Q ((l.filter p).map g) S) (S : Sto) (i : I S) : W (loopQ C f (l.map enc) S) Q := by
  induction l generalizing S Q with
  | nil =>
    rw [List.map_nil, loopQ, W_ask, W_ok]
    exact q S i
  | cons x l ih =>
    rw [List.map_cons, loopQ, W_ask, W_bind]
    obtain ⟨k1, k2⟩ := h x List.mem_cons_self S i
    refine ⟨k1, W_mono k2 fun o S' ⟨eo, i'⟩ => ?_⟩
    subst eo
    rw [W_bind]
    refine ih (fun z hz => h z (List.mem_cons_of_mem _ hz)) (Q := fun r S2 => W (.ok (match (if p x = true then some (g x) else none) with | some y => y :: r | none => r) S2) Q) (fun S2 i2 => ?_) S' i'
    obtain ⟨c1, c2⟩ := q S2 i2
    refine ⟨c1, (W_ok (Q := Q)).symm ▸ ?_⟩
    rw [List.filter_cons] at c2
    by_cases hp : p x = true
    · rw [if_pos hp] at c2 ⊢
      exact c2
    · rw [if_neg hp] at c2 ⊢
      exact c2
end
section
variable {α : Type} {C : Sto → Prop} {f : D → En → Sto → Res Fl} {Q : Fl → Sto → Prop}
theorem loopS_e (enc : α → D) (I : List α → En → Sto → Prop)
    (h : ∀ x r ρ S, I (x :: r) ρ S → C S ∧ W (f (enc x) ρ S) fun fl S' => ∃ ρ', (fl = .nx ρ' ∨ fl = .ct ρ') ∧ I r ρ' S')
    (h0 : ∀ ρ S, I [] ρ S → C S ∧ Q (.nx ρ) S) (l : List α) (ρ : En) (S : Sto) (i : I l ρ S) : W (loopS C f (l.map enc) ρ S) Q := by
  refine loopS_w (fun ds ρ S => ∃ r : List α, ds = r.map enc ∧ I r ρ S) ?_ ?_ _ _ _ ⟨l, rfl, i⟩
  · rintro d ds ρ S ⟨r, e, i⟩
    cases r with
    | nil => exact absurd e (by simp)
    | cons x r =>
    rw [List.map_cons, List.cons.injEq] at e
    obtain ⟨rfl, rfl⟩ := e
    obtain ⟨c, w⟩ := h x r ρ S i
    exact ⟨c, W_mono w fun fl S' ⟨ρ', e, i'⟩ => ⟨ρ', e, r, rfl, i'⟩⟩
  · rintro ρ S ⟨r, e, i⟩
    cases r with
    | cons x r => exact absurd e (by simp)
    | nil => exact h0 ρ S i
/-- a walk that may go back early -/
theorem loopS_re (enc : α → D) (I : List α → En → Sto → Prop)
    (h : ∀ x r ρ S, I (x :: r) ρ S → C S ∧ W (f (enc x) ρ S) fun fl S' => match fl with
      | .nx ρ' => I r ρ' S'
      | .ct ρ' => I r ρ' S'
      | .bk ρ' => Q (.nx ρ') S'
      | .rt x => Q (.rt x) S')
    (h0 : ∀ ρ S, I [] ρ S → C S ∧ Q (.nx ρ) S) (l : List α) (ρ : En) (S : Sto) (i : I l ρ S) : W (loopS C f (l.map enc) ρ S) Q := by
  refine loopS_r (fun ds ρ S => ∃ r : List α, ds = r.map enc ∧ I r ρ S) ?_ ?_ _ _ _ ⟨l, rfl, i⟩
  · rintro d ds ρ S ⟨r, e, i⟩
    cases r with
    | nil => exact absurd e (by simp)
    | cons x r =>
    rw [List.map_cons, List.cons.injEq] at e
    obtain ⟨rfl, rfl⟩ := e
    obtain ⟨c, w⟩ := h x r ρ S i
    refine ⟨c, W_mono w fun fl S' k => ?_⟩
    cases fl with
    | nx ρ' => exact ⟨r, rfl, k⟩
    | ct ρ' => exact ⟨r, rfl, k⟩
    | bk ρ' => exact k
    | rt x => exact k
  · rintro ρ S ⟨r, e, i⟩
    cases r with
    | cons x r => exact absurd e (by simp)
    | nil => exact h0 ρ S i
end
theorem rgD_nat (i j : Nat) (h : i ≤ j) : rgD (i : Int) (j : Int) = (List.range' i (j - i)).map natD := by
  have e : ((j : Int) - (i : Int)).toNat = j - i := by omega
  unfold rgD
  rw [e, List.range'_eq_map_range, List.map_map]
  exact List.map_congr_left fun k _ => by simp [natD]
theorem rgdD_nat (n : Nat) : rgdD ((n : Int) - 1) (-1) = (List.range n).reverse.map natD := by
  have e : ((n : Int) - 1 - -1).toNat = n := by omega
  unfold rgdD
  rw [e]
  refine List.ext_getElem (by simp) fun k h1 h2 => ?_
  simp only [List.length_map, List.length_range] at h1
  simp only [List.getElem_map, List.getElem_range, List.getElem_reverse, List.length_range, natD]
  congr 1
  omega
/-- no number of the store in it -/
theorem below_mono {m n : Nat} (h : m ≤ n) : ∀ d, below m d → below n d
  | .non, _ => trivial
  | .bl _, _ => trivial
  | .int _, _ => trivial
  | .str _, _ => trivial
  | .tup ds, k => all ds k
  | .fix ds, k => all ds k
  | .ref i, k => Nat.lt_of_lt_of_le (show i < m from k) h
where
  all : ∀ ds, belows m ds → belows n ds
    | [], _ => trivial
    | d :: ds, k => ⟨below_mono h d k.1, all ds k.2⟩
abbrev Pd (d : D) : Prop := below 0 d
theorem Pd.b {d : D} (h : Pd d) (n : Nat) : below n d := below_mono (Nat.zero_le n) d h
theorem pd_tup {l : List D} : Pd (.tup l) ↔ ∀ d ∈ l, Pd d := belows_iff
theorem pd_map {α : Type} {l : List α} {f : α → D} (h : ∀ x ∈ l, Pd (f x)) : Pd (.tup (l.map f)) := pd_tup.mpr fun d hd => by
  obtain ⟨x, hx, rfl⟩ := List.mem_map.mp hd
  exact h x hx
end PQ

/-! Lists of the store, walked or asked. -/
namespace PQ
open PySem PySem.Spec PyProof.Rows L2
section
variable {α : Type} {S : Sto} {a : Nat} {ds : List D}
theorem ls_lst (k : S[a]? = some (.lst ds)) : lsOf S (.val (.ref a)) = some ds := by simp only [lsOf, k]
theorem sq_lst (k : S[a]? = some (.lst ds)) : sqOf S (.val (.ref a)) = some ds := ls_lst k
theorem tr_lst (k : S[a]? = some (.lst ds)) : trOf S (.val (.ref a)) = some ds := by simp only [trOf, k]
theorem lst_lst (k : S[a]? = some (.lst ds)) : lstOf S (.val (.ref a)) = some ds := sq_lst k
theorem it_lst (k : S[a]? = some (.lst ds)) : itOf (.val (.ref a)) S = some ⟨ds, some a⟩ := by simp only [itOf, sq_lst k, Option.map_some]
theorem w_mayI {f : Itv → Res α} {Q : α → Sto → Prop} (k : S[a]? = some (.lst ds)) (h : W (f ⟨ds, some a⟩) Q) : W (may (itOf (.val (.ref a)) S) f) Q := w_may (it_lst k) h
theorem w_mayL {f : List D → Res α} {Q : α → Sto → Prop} (k : S[a]? = some (.lst ds)) (h : W (f ds) Q) : W (may (lsOf S (.val (.ref a))) f) Q := w_may (ls_lst k) h
theorem w_mayS {f : List D → Res α} {Q : α → Sto → Prop} (k : S[a]? = some (.lst ds)) (h : W (f ds) Q) : W (may (sqOf S (.val (.ref a))) f) Q := w_may (sq_lst k) h
theorem w_mayT {f : List D → Res α} {Q : α → Sto → Prop} (k : S[a]? = some (.lst ds)) (h : W (f ds) Q) : W (may (trOf S (.val (.ref a))) f) Q := w_may (tr_lst k) h
theorem w_mayO {f : List D → Res α} {Q : α → Sto → Prop} (k : S[a]? = some (.lst ds)) (h : W (f ds) Q) : W (may (lstOf S (.val (.ref a))) f) Q := w_may (lst_lst k) h
theorem v_lenR {Q : D → Sto → Prop} (k : S[a]? = some (.lst ds)) (h : Q (.int ds.length) S) : W (aggD .len (.val (.ref a)) S) Q := v_len (sq_lst k) h
theorem v_tupleR {Q : D → Sto → Prop} (k : S[a]? = some (.lst ds)) (h : Q (.tup ds) S) : W (aggD .tuple (.val (.ref a)) S) Q := v_tuple (sq_lst k) h
end
end PQ

namespace K87
open PySem PySem.Spec PyProof.Rows L2 PQ
abbrev P : Program := PySem.Challenge.pw_everygrown_k87_chances_of_builds
def top (i : Nat) : Stmt := P.main.body.getD i (.Pass ⟨0, 0, 0, 0⟩)
def names : List Str := ((["is_number", "is_between", "arity_in", "names_of", "arity_of", "rules_of", "rule_at", "slots_of", "flat", "frac", "plus", "times", "rule_chance", "build_chance", "mean_of", "means", "_law_begin", "_law_draw", "_law_pick", "_law_rare", "_law_shuffled", "_law_some", "_law_is_int", "_law_gcd", "_law_frac", "_law_is_frac", "_law_letters", "_law_names", "_law_ties", "_law_marks"] : List Str) ++ (["_law_rule", "_law_book", "_law_rules", "_law_parts", "_law_flat", "_law_joined", "_law_least", "_law_build", "_law_chance_book", "_law_long_name", "_law_long_book", "_law_chance_weights", "_law_weight_sums", "_law_due_row", "_law_due_chance", "_law_is_row", "_law_chance_builds", "_law_is_asked", "law"] : List Str))
def B : List Str := ["len", "range", "tuple", "int", "sorted", "isinstance", "list", "sum", "min", "max", "all", "str", "abs", "bool"]
def Gs : List (Str × Gv) := [("gcd", .fn "math.gcd"), ("ZERO", .con (.tup [.int 0, .int 1])), ("ONE", .con (.tup [.int 1, .int 1]))]

/-! ### the defs, in the small language -/
def b_is_number : CSs := (.cons (.ret (.and (.isi (.var 0) .int) (.not (.isi (.var 0) .bool)))) .nil)
def b_is_between : CSs := (.cons (.ret (.and (.call 0 (.cons (.var 0) .nil)) (.chn .le .le (.var 1) (.var 0) (.var 2)))) .nil)
def b_arity_in_1 : CSs := (.cons (.ite (.v (.cmp .eq (.var 2) (.var 1))) (.cons (.ret (.var 3)) .nil) .nil) .nil)
def b_arity_in_2 : CSs := (.cons (.ret (.lit .non)) .nil)
def b_arity_in : CSs := (.cons (.for (.tup [ 2 , 3 ]) (.r (.e (.var 0))) b_arity_in_1) b_arity_in_2)
def b_names_of : CSs := (.cons (.ret (.agg .tuple (.q (.comp [ 1 , 2 ] (.tup [ 1 , 2 ]) (.r (.e (.idx (.var 0) (.lit (.int 1))))) (.var 1))))) .nil)
def b_arity_of_1 : CSs := (.cons (.ret (.var 2)) .nil)
def b_arity_of : CSs := (.cons (.set (.nm 2) (.call 2 (.cons (.idx (.var 0) (.lit (.int 1))) (.cons (.var 1) .nil)))) (.cons (.ite (.v (.isN (.var 2))) (.cons .raise .nil) .nil) b_arity_of_1))
def b_rules_of : CSs := (.cons (.ex (.call 4 (.cons (.var 0) (.cons (.var 1) .nil)))) (.cons (.ret (.agg .tuple (.q (.compIf [ 2 ] (.nm 2) (.rg (.lit (.int 0)) (.agg .len (.e (.idx (.var 0) (.lit (.int 2)))))) (.v (.cmp .eq (.idx (.idx (.idx (.var 0) (.lit (.int 2))) (.var 2)) (.lit (.int 0))) (.var 1))) (.var 2))))) .nil))
def b_rule_at_1 : CSs := (.cons (.ret (.idx (.idx (.var 0) (.lit (.int 2))) (.var 1))) .nil)
def b_rule_at : CSs := (.cons (.ite (.not (.v (.call 1 (.cons (.var 1) (.cons (.lit (.int 0)) (.cons (.bin .sub (.agg .len (.e (.idx (.var 0) (.lit (.int 2))))) (.lit (.int 1))) .nil)))))) (.cons .raise .nil) .nil) b_rule_at_1)
def b_slots_of : CSs := (.cons (.ret (.idx (.call 6 (.cons (.var 0) (.cons (.var 1) .nil))) (.lit (.int 3)))) .nil)
def b_flat_3 : CSs := (.cons (.ex (.app (.var 3) (.tup (.cons (.idx (.var 7) (.var 8)) (.cons (.var 6) .nil))))) .nil)
def b_flat_2 : CSs := (.cons (.set (.nm 7) (.ife (.v (.isN (.var 4))) (.tup .nil) (.idx (.var 4) (.neg (.lit (.int 1)))))) (.cons (.for (.nm 8) (.rgd (.bin .sub (.agg .len (.e (.var 7))) (.lit (.int 1))) (.neg (.lit (.int 1)))) b_flat_3) .nil))
def b_flat_1 : CSs := (.cons (.set (.tup [ 4 , 5 ]) (.pop (.var 3))) (.cons (.set (.nm 6) (.agg .len (.e (.var 1)))) (.cons (.ex (.app (.var 1) (.var 4))) (.cons (.ex (.app (.var 2) (.alloc (.disp .nil)))) (.cons (.ite (.v (.cmp .ge (.var 5) (.lit (.int 0)))) (.cons (.ex (.app (.idx (.var 2) (.var 5)) (.var 6))) .nil) .nil) b_flat_2)))))
def b_flat_4 : CSs := (.cons (.ret (.tup (.cons (.var 1) (.cons (.var 2) .nil)))) .nil)
def b_flat : CSs := (.cons (.par 1 2 (.alloc (.disp .nil)) (.alloc (.disp .nil))) (.cons (.set (.nm 3) (.alloc (.disp (.cons (.tup (.cons (.var 0) (.cons (.neg (.lit (.int 1))) .nil))) .nil)))) (.cons (.while (.v (.cmp .gt (.agg .len (.e (.var 3))) (.lit (.int 0)))) b_flat_1) b_flat_4)))
def b_frac_1 : CSs := (.cons (.ret (.tup (.cons (.bin .fdiv (.var 0) (.var 2)) (.cons (.bin .fdiv (.var 1) (.var 2)) .nil)))) .nil)
def b_frac : CSs := (.cons (.set (.nm 2) (.fn2 .gcd (.var 0) (.var 1))) (.cons (.ite (.v (.cmp .lt (.var 1) (.lit (.int 0)))) (.cons (.set (.nm 2) (.neg (.var 2))) .nil) .nil) b_frac_1))
def b_plus : CSs := (.cons (.ret (.call 9 (.cons (.bin .add (.bin .mul (.idx (.var 0) (.lit (.int 0))) (.idx (.var 1) (.lit (.int 1)))) (.bin .mul (.idx (.var 1) (.lit (.int 0))) (.idx (.var 0) (.lit (.int 1))))) (.cons (.bin .mul (.idx (.var 0) (.lit (.int 1))) (.idx (.var 1) (.lit (.int 1)))) .nil)))) .nil)
def b_times : CSs := (.cons (.ret (.call 9 (.cons (.bin .mul (.idx (.var 0) (.lit (.int 0))) (.idx (.var 1) (.lit (.int 0)))) (.cons (.bin .mul (.idx (.var 0) (.lit (.int 1))) (.idx (.var 1) (.lit (.int 1)))) .nil)))) .nil)
def b_rule_chance : CSs := (.cons (.set (.nm 3) (.call 5 (.cons (.var 0) (.cons (.idx (.idx (.idx (.var 0) (.lit (.int 2))) (.var 2)) (.lit (.int 0))) .nil)))) (.cons (.ret (.call 9 (.cons (.idx (.var 1) (.var 2)) (.cons (.agg .sum (.q (.comp [ 4 ] (.nm 4) (.r (.e (.var 3))) (.idx (.var 1) (.var 4))))) .nil)))) .nil))
def b_build_chance_1 : CSs := (.cons (.set (.nm 3) (.call 11 (.cons (.var 3) (.cons (.call 12 (.cons (.var 0) (.cons (.var 1) (.cons (.idx (.var 4) (.lit (.int 0))) .nil)))) .nil)))) .nil)
def b_build_chance_2 : CSs := (.cons (.ret (.var 3)) .nil)
def b_build_chance : CSs := (.cons (.set (.nm 3) (.lit (.tup [ ( .int 1 ) , ( .int 1 ) ]))) (.cons (.for (.nm 4) (.r (.e (.idx (.call 8 (.cons (.var 2) .nil)) (.lit (.int 0))))) b_build_chance_1) b_build_chance_2))
def b_mean_of_1 : CSs := (.cons (.set (.nm 6) (.agg .len (.q (.compIf [ 7 ] (.nm 7) (.r (.e (.call 7 (.cons (.var 0) (.cons (.var 5) .nil))))) (.v (.cmp .eq (.idx (.var 7) (.lit (.int 0))) (.var 3))) (.var 7))))) (.cons (.set (.nm 4) (.call 10 (.cons (.var 4) (.cons (.call 11 (.cons (.call 12 (.cons (.var 0) (.cons (.var 1) (.cons (.var 5) .nil)))) (.cons (.call 9 (.cons (.var 6) (.cons (.lit (.int 1)) .nil))) .nil))) .nil)))) .nil))
def b_mean_of_2 : CSs := (.cons (.ret (.var 4)) .nil)
def b_mean_of : CSs := (.cons (.set (.nm 4) (.lit (.tup [ ( .int 0 ) , ( .int 1 ) ]))) (.cons (.for (.nm 5) (.r (.e (.call 5 (.cons (.var 0) (.cons (.var 2) .nil))))) b_mean_of_1) b_mean_of_2))
def b_means : CSs := (.cons (.set (.nm 2) (.call 3 (.cons (.var 0) .nil))) (.cons (.ret (.agg .tuple (.q (.comp [ 3 ] (.nm 3) (.r (.e (.var 2))) (.agg .tuple (.q (.comp [ 4 ] (.nm 4) (.r (.e (.var 2))) (.call 14 (.cons (.var 0) (.cons (.var 1) (.cons (.var 3) (.cons (.var 4) .nil)))))))))))) .nil))
def b__law_begin : CSs := (.cons (.ret (.alloc (.disp (.cons (.alloc (.comp [ 1 ] (.nm 1) (.r (.e (.var 0))) (.fn1 .int (.var 1)))) (.cons (.lit (.int 0)) (.cons (.lit (.int 0)) (.cons (.lit (.int 5)) .nil))))))) .nil)
def b__law_draw_3 : CSs := (.cons (.sub (.var 0) (.lit (.int 3)) (.bin .mod (.fn1 .int (.bin .add (.bin .add (.bin .add (.bin .mul (.idx (.var 0) (.lit (.int 3))) (.lit (.int 48271))) (.bin .mul (.bin .mod (.fn1 .int (.var 3)) (.lit (.int 2147483629))) (.lit (.int 16807)))) (.bin .mul (.idx (.var 0) (.lit (.int 1))) (.lit (.int 69621)))) (.lit (.int 11)))) (.lit (.int 2147483647)))) (.cons (.ret (.bin .mod (.fn1 .int (.bin .fdiv (.idx (.var 0) (.lit (.int 3))) (.lit (.int 16)))) (.var 1))) .nil))
def b__law_draw_2 : CSs := (.cons (.augS (.var 0) (.lit (.int 1)) .add (.lit (.int 1))) (.cons (.ite (.v (.cmp .ge (.var 3) (.bin .mul (.lit (.int 2)) (.bin .pow (.lit (.int 10)) (.lit (.int 18)))))) (.cons (.set (.nm 2) (.bin .mod (.fn1 .int (.bin .fdiv (.var 3) (.lit (.int 2)))) (.bin .shl (.lit (.int 1)) (.lit (.int 6000))))) (.cons (.sub (.var 0) (.lit (.int 2)) (.bin .fdiv (.var 2) (.var 1))) (.cons (.ret (.bin .mod (.fn1 .int (.var 2)) (.var 1))) .nil))) .nil) b__law_draw_3))
def b__law_draw_1 : CSs := (.cons (.set (.nm 3) (.lit (.int 0))) (.cons (.ite (.v (.cmp .lt (.idx (.var 0) (.lit (.int 1))) (.agg .len (.e (.idx (.var 0) (.lit (.int 0))))))) (.cons (.set (.nm 4) (.idx (.idx (.var 0) (.lit (.int 0))) (.idx (.var 0) (.lit (.int 1))))) (.cons (.set (.nm 3) (.bin .add (.bin .mul (.lit (.int 2)) (.fn1 .abs (.var 4))) (.fn1 .int (.cmp .lt (.var 4) (.lit (.int 0)))))) .nil)) .nil) b__law_draw_2))
def b__law_draw : CSs := (.cons (.ite (.v (.cmp .gt (.idx (.var 0) (.lit (.int 2))) (.lit (.int 0)))) (.cons (.set (.nm 2) (.idx (.var 0) (.lit (.int 2)))) (.cons (.sub (.var 0) (.lit (.int 2)) (.bin .fdiv (.var 2) (.var 1))) (.cons (.ret (.bin .mod (.fn1 .int (.var 2)) (.var 1))) .nil))) .nil) b__law_draw_1)
def b__law_pick : CSs := (.cons (.ret (.idx (.var 1) (.call 17 (.cons (.var 0) (.cons (.agg .len (.e (.var 1))) .nil))))) .nil)
def b__law_rare : CSs := (.cons (.ret (.cmp .eq (.call 17 (.cons (.var 0) (.cons (.var 1) .nil))) (.bin .fdiv (.var 1) (.lit (.int 2))))) .nil)
def b__law_shuffled_1 : CSs := (.cons (.ex (.app (.var 3) (.popAt (.var 2) (.call 17 (.cons (.var 0) (.cons (.agg .len (.e (.var 2))) .nil)))))) .nil)
def b__law_shuffled_2 : CSs := (.cons (.ret (.var 3)) .nil)
def b__law_shuffled : CSs := (.cons (.set (.nm 2) (.alloc (.list (.e (.var 1))))) (.cons (.set (.nm 3) (.alloc (.disp .nil))) (.cons (.for (.nm 4) (.rg (.lit (.int 0)) (.agg .len (.e (.var 2)))) b__law_shuffled_1) b__law_shuffled_2)))
def b__law_some : CSs := (.cons (.ret (.slc (.call 20 (.cons (.var 0) (.cons (.var 1) .nil))) .none (.some (.var 2)))) .nil)
def b__law_is_int : CSs := (.cons (.ret (.and (.isi (.var 0) .int) (.not (.isi (.var 0) .bool)))) .nil)
def b__law_gcd_1 : CSs := (.cons (.par 0 1 (.var 1) (.bin .mod (.fn1 .int (.var 0)) (.var 1))) .nil)
def b__law_gcd_2 : CSs := (.cons (.ret (.var 0)) .nil)
def b__law_gcd : CSs := (.cons (.par 0 1 (.fn1 .abs (.var 0)) (.fn1 .abs (.var 1))) (.cons (.while (.v (.cmp .ne (.var 1) (.lit (.int 0)))) b__law_gcd_1) b__law_gcd_2))
def b__law_frac_1 : CSs := (.cons (.set (.nm 2) (.call 23 (.cons (.var 0) (.cons (.var 1) .nil)))) (.cons (.ret (.tup (.cons (.bin .fdiv (.var 0) (.var 2)) (.cons (.bin .fdiv (.var 1) (.var 2)) .nil)))) .nil))
def b__law_frac : CSs := (.cons (.ite (.v (.cmp .lt (.var 1) (.lit (.int 0)))) (.cons (.par 0 1 (.neg (.var 0)) (.neg (.var 1))) .nil) .nil) b__law_frac_1)
def b__law_is_frac_2 : CSs := (.cons (.ret (.and (.cmp .ge (.idx (.var 0) (.lit (.int 1))) (.lit (.int 1))) (.cmp .eq (.call 23 (.cons (.idx (.var 0) (.lit (.int 0))) (.cons (.idx (.var 0) (.lit (.int 1))) .nil))) (.lit (.int 1))))) .nil)
def b__law_is_frac_1 : CSs := (.cons (.ite (.not (.and (.v (.call 22 (.cons (.idx (.var 0) (.lit (.int 0))) .nil))) (.v (.call 22 (.cons (.idx (.var 0) (.lit (.int 1))) .nil))))) (.cons (.ret (.lit (.bl false))) .nil) .nil) b__law_is_frac_2)
def b__law_is_frac : CSs := (.cons (.ite (.or (.not (.v (.isi (.var 0) .tuple))) (.v (.cmp .ne (.agg .len (.e (.var 0))) (.lit (.int 2))))) (.cons (.ret (.lit (.bl false))) .nil) .nil) b__law_is_frac_1)
def b__law_letters : CSs := (.cons (.ret (.call 21 (.cons (.var 0) (.cons (.alloc (.list (.e (.lit (.str "abcdefghijklmnopqrstuvwxyz"))))) (.cons (.var 1) .nil))))) .nil)
def b__law_names_1 : CSs := (.cons (.ex (.app (.var 3) (.bin .add (.var 4) (.join "" (.q (.comp [ 5 ] (.nm 5) (.rg (.lit (.int 0)) (.call 17 (.cons (.var 0) (.cons (.lit (.int 5)) .nil)))) (.idx (.var 2) (.call 17 (.cons (.var 0) (.cons (.lit (.int 63)) .nil)))))))))) .nil)
def b__law_names_2 : CSs := (.cons (.ret (.var 3)) .nil)
def b__law_names : CSs := (.cons (.set (.nm 2) (.lit (.str "abcdefghijklmnopqrstuvwxyzABCDEFGHIJKLMNOPQRSTUVWXYZ0123456789_"))) (.cons (.set (.nm 3) (.alloc (.disp .nil))) (.cons (.for (.nm 4) (.r (.e (.call 21 (.cons (.var 0) (.cons (.alloc (.list (.e (.lit (.str "ABCDEFGHIJKLMNOPQRSTUVWXYZ"))))) (.cons (.var 1) .nil)))))) b__law_names_1) b__law_names_2)))
def b__law_ties_1 : CSs := (.cons (.set (.nm 6) (.alloc (.sorted (.e (.call 21 (.cons (.var 0) (.cons (.alloc (.listRg (.lit (.int 0)) (.var 1))) (.cons (.lit (.int 2)) .nil)))))))) (.cons (.ex (.app (.var 4) (.tup (.cons (.idx (.var 6) (.lit (.int 0))) (.cons (.idx (.var 6) (.lit (.int 1))) (.cons (.call 18 (.cons (.var 0) (.cons (.var 3) .nil))) .nil)))))) .nil))
def b__law_ties_2 : CSs := (.cons (.ret (.agg .tuple (.q (.sorted (.e (.var 4)))))) .nil)
def b__law_ties : CSs := (.cons (.set (.nm 4) (.alloc (.disp .nil))) (.cons (.ite (.v (.cmp .ge (.var 1) (.lit (.int 2)))) (.cons (.for (.nm 5) (.rg (.lit (.int 0)) (.var 2)) b__law_ties_1) .nil) .nil) b__law_ties_2))
def b__law_marks : CSs := (.cons (.ret (.join "" (.q (.comp [ 3 ] (.nm 3) (.rg (.lit (.int 0)) (.var 1)) (.call 18 (.cons (.var 0) (.cons (.var 2) .nil))))))) .nil)
def b__law_rule : CSs := (.cons (.set (.nm 7) (.agg .max (.q (.cat (.q (.disp (.cons (.var 3) .nil))) (.q (.comp [ 10 ] (.nm 10) (.r (.e (.var 2))) (.bin .sub (.idx (.var 10) (.lit (.int 1))) (.idx (.var 1) (.lit (.int 1)))))))))) (.cons (.set (.nm 8) (.bin .add (.idx (.var 1) (.lit (.int 1))) (.var 7))) (.cons (.set (.nm 9) (.agg .tuple (.q (.comp [ 10 ] (.nm 10) (.r (.e (.var 2))) (.tup (.cons (.idx (.var 10) (.lit (.int 0))) (.cons (.agg .tuple (.e (.call 21 (.cons (.var 0) (.cons (.alloc (.listRg (.lit (.int 0)) (.var 8))) (.cons (.idx (.var 10) (.lit (.int 1))) .nil)))))) .nil))))))) (.cons (.ret (.tup (.cons (.idx (.var 1) (.lit (.int 0))) (.cons (.call 29 (.cons (.var 0) (.cons (.var 7) (.cons (.var 5) .nil)))) (.cons (.call 28 (.cons (.var 0) (.cons (.var 8) (.cons (.var 4) (.cons (.var 6) .nil))))) (.cons (.var 9) .nil)))))) .nil))))
def b__law_book_1 : CSs := (.cons (.ex (.app (.var 9) (.call 30 (.cons (.var 0) (.cons (.var 10) (.cons (.alloc (.disp .nil)) (.cons (.bin .add (.call 17 (.cons (.var 0) (.cons (.lit (.int 2)) .nil))) (.cmp .eq (.idx (.var 10) (.lit (.int 1))) (.lit (.int 0)))) (.cons (.bin .add (.lit (.int 1)) (.call 17 (.cons (.var 0) (.cons (.lit (.int 2)) .nil)))) (.cons (.var 5) (.cons (.var 6) .nil)))))))))) .nil)
def b__law_book_3 : CSs := (.cons (.set (.nm 10) (.ife (.v (.cmp .eq (.var 11) (.lit (.int 0)))) (.idx (.var 8) (.lit (.int 0))) (.call 18 (.cons (.var 0) (.cons (.var 8) .nil))))) (.cons (.set (.nm 12) (.alloc (.comp [ 14 ] (.nm 14) (.rg (.lit (.int 0)) (.bin .add (.lit (.int 1)) (.call 17 (.cons (.var 0) (.cons (.var 4) .nil))))) (.call 18 (.cons (.var 0) (.cons (.var 8) .nil)))))) (.cons (.ex (.app (.var 9) (.call 30 (.cons (.var 0) (.cons (.var 10) (.cons (.var 12) (.cons (.call 17 (.cons (.var 0) (.cons (.lit (.int 2)) .nil))) (.cons (.call 17 (.cons (.var 0) (.cons (.lit (.int 3)) .nil))) (.cons (.var 5) (.cons (.var 6) .nil)))))))))) .nil)))
def b__law_book_4 : CSs := (.cons (.ret (.tup (.cons (.idx (.var 7) (.lit (.int 0))) (.cons (.agg .tuple (.q (.sorted (.e (.var 8))))) (.cons (.agg .tuple (.e (.call 20 (.cons (.var 0) (.cons (.var 9) .nil))))) .nil))))) .nil)
def b__law_book_2 : CSs := (.cons (.for (.nm 11) (.rg (.lit (.int 0)) (.var 3)) b__law_book_3) b__law_book_4)
def b__law_book : CSs := (.cons (.set (.nm 7) (.call 27 (.cons (.var 0) (.cons (.var 1) .nil)))) (.cons (.set (.nm 8) (.alloc (.comp [ 13 ] (.nm 13) (.r (.e (.var 7))) (.tup (.cons (.var 13) (.cons (.ife (.v (.cmp .eq (.var 13) (.idx (.var 7) (.lit (.int 0))))) (.lit (.int 0)) (.call 17 (.cons (.var 0) (.cons (.bin .add (.var 2) (.lit (.int 1))) .nil)))) .nil)))))) (.cons (.set (.nm 9) (.alloc (.disp .nil))) (.cons (.for (.nm 10) (.r (.e (.var 8))) b__law_book_1) b__law_book_2))))
def b__law_rules : CSs := (.cons (.ret (.alloc (.compIf [ 2 ] (.nm 2) (.rg (.lit (.int 0)) (.agg .len (.e (.idx (.var 0) (.lit (.int 2)))))) (.v (.cmp .eq (.idx (.idx (.idx (.var 0) (.lit (.int 2))) (.var 2)) (.lit (.int 0))) (.var 1))) (.var 2)))) .nil)
def b__law_parts_1 : CSs := (.cons (.ret (.ife (.v (.isi (.idx (.var 0) (.lit (.int 0))) .str)) (.alloc (.list (.e (.slc (.var 0) (.some (.lit (.int 1))) .none)))) (.alloc (.list (.e (.idx (.var 0) (.neg (.lit (.int 1))))))))) .nil)
def b__law_parts : CSs := (.cons (.ite (.or (.v (.isN (.var 0))) (.v (.inr (.idx (.var 0) (.lit (.int 0))) (.e (.tup (.cons (.lit (.str "least")) (.cons (.lit (.str "rest")) .nil))))))) (.cons (.ret (.alloc (.disp .nil))) .nil) .nil) b__law_parts_1)
def b__law_flat_3 : CSs := (.cons (.ex (.ext (.var 3) (.q (.comp [ 7 ] (.nm 7) (.r (.q (.rev (.e (.call 33 (.cons (.var 5) .nil)))))) (.tup (.cons (.var 7) (.cons (.agg .len (.e (.var 1))) .nil))))))) (.cons (.ex (.app (.var 1) (.var 5))) (.cons (.ex (.app (.var 2) (.alloc (.disp .nil)))) .nil)))
def b__law_flat_2 : CSs := (.cons (.set (.tup [ 5 , 6 ]) (.pop (.var 3))) (.cons (.ite (.v (.cmp .ge (.var 6) (.lit (.int 0)))) (.cons (.ex (.app (.idx (.var 2) (.var 6)) (.agg .len (.e (.var 1))))) .nil) .nil) b__law_flat_3))
def b__law_flat_1 : CSs := (.cons (.ite (.v (.cmp .eq (.agg .len (.e (.var 3))) (.lit (.int 0)))) (.cons (.ret (.alloc (.disp (.cons (.var 1) (.cons (.var 2) .nil))))) .nil) .nil) b__law_flat_2)
def b__law_flat_4 : CSs := (.cons (.ret (.alloc (.disp (.cons (.var 1) (.cons (.var 2) .nil))))) .nil)
def b__law_flat : CSs := (.cons (.set (.tup [ 1 , 2 ]) (.tup (.cons (.alloc (.disp .nil)) (.cons (.alloc (.disp .nil)) .nil)))) (.cons (.set (.nm 3) (.alloc (.disp (.cons (.tup (.cons (.var 0) (.cons (.neg (.lit (.int 1))) .nil))) .nil)))) (.cons (.for (.nm 4) (.rg (.lit (.int 0)) (.lit (.int 5000))) b__law_flat_1) b__law_flat_4)))
def b__law_joined_1 : CSs := (.cons (.set (.tup [ 3 , 4 ]) (.idx (.var 0) (.bin .sub (.bin .sub (.agg .len (.e (.var 0))) (.lit (.int 1))) (.var 2)))) (.cons (.set (.nm 5) (.alloc (.comp [ 6 ] (.nm 6) (.rg (.lit (.int 0)) (.var 4)) (.pop (.var 1))))) (.cons (.ex (.app (.var 1) (.tup (.cons (.var 3) (.cons (.agg .tuple (.e (.var 5))) .nil))))) .nil)))
def b__law_joined_2 : CSs := (.cons (.ret (.idx (.var 1) (.lit (.int 0)))) .nil)
def b__law_joined : CSs := (.cons (.set (.nm 1) (.alloc (.disp .nil))) (.cons (.for (.nm 2) (.rg (.lit (.int 0)) (.agg .len (.e (.var 0)))) b__law_joined_1) b__law_joined_2))
def b__law_least_2 : CSs := (.cons (.ite (.v (.agg .all (.q (.comp [ 5 ] (.nm 5) (.r (.e (.idx (.var 3) (.lit (.int 3))))) (.inr (.idx (.var 5) (.lit (.int 0))) (.e (.var 1))))))) (.cons (.set (.nm 4) (.bin .add (.lit (.int 1)) (.agg .sum (.q (.comp [ 5 ] (.nm 5) (.r (.e (.idx (.var 3) (.lit (.int 3))))) (.idx (.var 1) (.idx (.var 5) (.lit (.int 0))))))))) (.cons (.ite (.or (.v (.notInr (.idx (.var 3) (.lit (.int 0))) (.e (.var 1)))) (.v (.cmp .lt (.var 4) (.idx (.var 1) (.idx (.var 3) (.lit (.int 0))))))) (.cons (.sub (.var 1) (.idx (.var 3) (.lit (.int 0))) (.var 4)) .nil) .nil) .nil)) .nil) .nil)
def b__law_least_1 : CSs := (.cons (.for (.nm 3) (.r (.e (.idx (.var 0) (.lit (.int 2))))) b__law_least_2) .nil)
def b__law_least_3 : CSs := (.cons (.ret (.var 1)) .nil)
def b__law_least : CSs := (.cons (.set (.nm 1) .dnew) (.cons (.for (.nm 2) (.rg (.lit (.int 0)) (.agg .len (.e (.idx (.var 0) (.lit (.int 1)))))) b__law_least_1) b__law_least_3))
def b__law_build_4 : CSs := (.cons (.set (.nm 12) (.idx (.idx (.idx (.var 1) (.lit (.int 2))) (.var 11)) (.lit (.int 3)))) (.cons (.ite (.v (.agg .all (.q (.comp [ 15 ] (.nm 15) (.r (.e (.var 12))) (.inr (.idx (.var 15) (.lit (.int 0))) (.e (.var 4))))))) (.cons (.set (.nm 13) (.bin .sub (.bin .add (.lit (.int 1)) (.agg .sum (.q (.comp [ 15 ] (.nm 15) (.r (.e (.var 12))) (.idx (.var 4) (.idx (.var 15) (.lit (.int 0)))))))) (.idx (.var 4) (.var 9)))) (.cons (.ite (.v (.cmp .le (.var 13) (.var 5))) (.cons (.ex (.app (.var 10) (.tup (.cons (.var 13) (.cons (.var 11) .nil))))) .nil) .nil) .nil)) .nil) .nil))
def b__law_build_6 : CSs := (.cons (.ex (.app (.var 7) (.idx (.idx (.var 12) (.bin .sub (.bin .sub (.agg .len (.e (.var 12))) (.lit (.int 1))) (.var 14))) (.lit (.int 0))))) .nil)
def b__law_build_5 : CSs := (.cons (.set (.tup [ 13 , 11 ]) (.call 18 (.cons (.var 0) (.cons (.var 10) .nil)))) (.cons (.aug 5 .sub (.var 13)) (.cons (.set (.nm 12) (.idx (.idx (.idx (.var 1) (.lit (.int 2))) (.var 11)) (.lit (.int 3)))) (.cons (.ex (.app (.var 6) (.tup (.cons (.var 11) (.cons (.agg .len (.e (.var 12))) .nil))))) (.cons (.for (.nm 14) (.rg (.lit (.int 0)) (.agg .len (.e (.var 12)))) b__law_build_6) .nil)))))
def b__law_build_3 : CSs := (.cons (.set (.nm 9) (.pop (.var 7))) (.cons (.set (.nm 10) (.alloc (.disp .nil))) (.cons (.for (.nm 11) (.r (.e (.call 32 (.cons (.var 1) (.cons (.var 9) .nil))))) b__law_build_4) b__law_build_5)))
def b__law_build_2 : CSs := (.cons (.ite (.v (.cmp .eq (.agg .len (.e (.var 7))) (.lit (.int 0)))) (.cons (.ret (.call 35 (.cons (.var 6) .nil))) .nil) .nil) b__law_build_3)
def b__law_build_7 : CSs := (.cons (.ret (.lit .non)) .nil)
def b__law_build_1 : CSs := (.cons (.set (.nm 5) (.fn2 .max (.lit (.int 0)) (.bin .sub (.var 3) (.idx (.var 4) (.var 2))))) (.cons (.set (.nm 6) (.alloc (.disp .nil))) (.cons (.set (.nm 7) (.alloc (.disp (.cons (.var 2) .nil)))) (.cons (.for (.nm 8) (.rg (.lit (.int 0)) (.lit (.int 4000))) b__law_build_2) b__law_build_7))))
def b__law_build : CSs := (.cons (.set (.nm 4) (.call 36 (.cons (.var 1) .nil))) (.cons (.ite (.v (.notInr (.var 2) (.e (.var 4)))) (.cons (.ret (.lit .non)) .nil) .nil) b__law_build_1))
def b__law_chance_book_2 : CSs := (.cons (.set (.nm 7) (.call 17 (.cons (.var 0) (.cons (.bin .add (.agg .len (.e (.idx (.var 5) (.lit (.int 2))))) (.lit (.int 1))) .nil)))) (.cons (.set (.nm 5) (.tup (.cons (.idx (.var 5) (.lit (.int 0))) (.cons (.idx (.var 5) (.lit (.int 1))) (.cons (.bin .add (.slc (.idx (.var 5) (.lit (.int 2))) .none (.some (.var 7))) (.slc (.idx (.var 5) (.lit (.int 2))) (.some (.bin .add (.var 7) (.lit (.int 1)))) .none)) .nil))))) .nil))
def b__law_chance_book_3 : CSs := (.cons (.ret (.ife (.v (.cmp .eq (.call 17 (.cons (.var 0) (.cons (.lit (.int 12)) .nil))) (.lit (.int 1)))) (.call 40 (.cons (.var 5) .nil)) (.var 5))) .nil)
def b__law_chance_book_1 : CSs := (.cons (.set (.nm 5) (.call 31 (.cons (.var 0) (.cons (.var 3) (.cons (.lit (.int 3)) (.cons (.var 4) (.cons (.bin .add (.lit (.int 1)) (.call 17 (.cons (.var 0) (.cons (.lit (.int 3)) .nil)))) (.cons (.var 1) (.cons (.var 2) .nil))))))))) (.cons (.ite (.v (.cmp .eq (.call 17 (.cons (.var 0) (.cons (.lit (.int 3)) .nil))) (.lit (.int 1)))) (.cons (.for (.nm 6) (.rg (.lit (.int 0)) (.bin .add (.lit (.int 1)) (.call 17 (.cons (.var 0) (.cons (.lit (.int 3)) .nil))))) b__law_chance_book_2) .nil) .nil) b__law_chance_book_3))
def b__law_chance_book : CSs := (.cons (.set (.nm 1) (.call 26 (.cons (.var 0) (.cons (.lit (.int 2)) .nil)))) (.cons (.set (.nm 2) (.call 26 (.cons (.var 0) (.cons (.lit (.int 1)) .nil)))) (.cons (.par 3 4 (.bin .add (.lit (.int 1)) (.call 17 (.cons (.var 0) (.cons (.lit (.int 4)) .nil)))) (.call 17 (.cons (.var 0) (.cons (.lit (.int 8)) .nil)))) (.cons (.ite (.v (.call 19 (.cons (.var 0) (.cons (.lit (.int 16)) .nil)))) (.cons (.par 3 4 (.bin .add (.lit (.int 5)) (.call 17 (.cons (.var 0) (.cons (.lit (.int 12)) .nil)))) (.bin .add (.lit (.int 5)) (.call 17 (.cons (.var 0) (.cons (.lit (.int 20)) .nil))))) .nil) (.cons (.ite (.v (.call 19 (.cons (.var 0) (.cons (.lit (.int 48)) .nil)))) (.cons (.par 3 4 (.lit (.int 2)) (.bin .sub (.lit (.int 398)) (.call 17 (.cons (.var 0) (.cons (.lit (.int 300)) .nil))))) .nil) .nil) .nil)) b__law_chance_book_1))))
def b__law_long_name : CSs := (.cons (.ret (.bin .add (.var 0) (.bin .mul (.lit (.str "_")) (.bin .sub (.lit (.int 60)) (.agg .len (.e (.var 0))))))) .nil)
def b__law_long_book_1 : CSs := (.cons (.set (.nm 7) (.agg .tuple (.q (.comp [ 9 ] (.nm 9) (.r (.e (.var 6))) (.tup (.cons (.call 39 (.cons (.idx (.var 9) (.lit (.int 0))) .nil)) (.cons (.idx (.var 9) (.lit (.int 1))) .nil))))))) (.cons (.ex (.app (.var 2) (.tup (.cons (.call 39 (.cons (.var 3) .nil)) (.cons (.var 4) (.cons (.var 5) (.cons (.var 7) .nil))))))) .nil))
def b__law_long_book_2 : CSs := (.cons (.ret (.tup (.cons (.call 39 (.cons (.idx (.var 0) (.lit (.int 0))) .nil)) (.cons (.var 1) (.cons (.agg .tuple (.e (.var 2))) .nil))))) .nil)
def b__law_long_book : CSs := (.cons (.set (.nm 1) (.agg .tuple (.q (.comp [ 3 , 8 ] (.tup [ 3 , 8 ]) (.r (.e (.idx (.var 0) (.lit (.int 1))))) (.tup (.cons (.call 39 (.cons (.var 3) .nil)) (.cons (.var 8) .nil))))))) (.cons (.set (.nm 2) (.alloc (.disp .nil))) (.cons (.for (.tup [ 3 , 4 , 5 , 6 ]) (.r (.e (.idx (.var 0) (.lit (.int 2))))) b__law_long_book_1) b__law_long_book_2)))
def b__law_chance_weights_1 : CSs := (.cons (.ite (.v (.cmp .eq (.agg .len (.e (.idx (.idx (.idx (.var 1) (.lit (.int 2))) (.var 4)) (.lit (.int 3))))) (.lit (.int 0)))) (.cons (.set (.nm 5) (.alloc (.compIf [ 8 ] (.nm 8) (.r (.e (.call 32 (.cons (.var 1) (.cons (.idx (.idx (.idx (.var 1) (.lit (.int 2))) (.var 4)) (.lit (.int 0))) .nil))))) (.v (.cmp .gt (.agg .len (.e (.idx (.idx (.idx (.var 1) (.lit (.int 2))) (.var 8)) (.lit (.int 3))))) (.lit (.int 0)))) (.var 8)))) (.cons (.set (.nm 6) (.agg .sum (.q (.comp [ 8 ] (.nm 8) (.r (.e (.var 5))) (.bin .mul (.idx (.var 3) (.var 8)) (.bin .sub (.agg .len (.e (.idx (.idx (.idx (.var 1) (.lit (.int 2))) (.var 8)) (.lit (.int 3))))) (.lit (.int 1)))))))) (.cons (.sub (.var 3) (.var 4) (.fn2 .min (.lit (.int 99)) (.fn2 .max (.lit (.int 1)) (.bin .add (.var 6) (.bin .mul (.bin .sub (.var 2) (.lit (.int 2))) (.bin .sub (.call 17 (.cons (.var 0) (.cons (.lit (.int 3)) .nil))) (.lit (.int 1)))))))) .nil))) .nil) .nil)
def b__law_chance_weights_2 : CSs := (.cons (.ret (.agg .tuple (.e (.var 3)))) .nil)
def b__law_chance_weights : CSs := (.cons (.set (.nm 2) (.call 17 (.cons (.var 0) (.cons (.lit (.int 4)) .nil)))) (.cons (.set (.nm 3) (.alloc (.comp [ 7 ] (.nm 7) (.r (.e (.idx (.var 1) (.lit (.int 2))))) (.bin .add (.lit (.int 1)) (.call 17 (.cons (.var 0) (.cons (.ife (.v (.cmp .eq (.var 2) (.lit (.int 1)))) (.lit (.int 99)) (.lit (.int 5))) .nil))))))) (.cons (.ite (.v (.cmp .ge (.var 2) (.lit (.int 2)))) (.cons (.for (.nm 4) (.rg (.lit (.int 0)) (.agg .len (.e (.idx (.var 1) (.lit (.int 2)))))) b__law_chance_weights_1) .nil) .nil) b__law_chance_weights_2)))
def b__law_weight_sums_1 : CSs := (.cons (.set (.nm 4) (.idx (.idx (.idx (.var 0) (.lit (.int 2))) (.var 3)) (.lit (.int 0)))) (.cons (.sub (.var 2) (.var 4) (.bin .add (.dget (.var 2) (.var 4) (.lit (.int 0))) (.idx (.var 1) (.var 3)))) .nil))
def b__law_weight_sums_2 : CSs := (.cons (.ret (.var 2)) .nil)
def b__law_weight_sums : CSs := (.cons (.set (.nm 2) .dnew) (.cons (.for (.nm 3) (.rg (.lit (.int 0)) (.agg .len (.e (.idx (.var 0) (.lit (.int 2)))))) b__law_weight_sums_1) b__law_weight_sums_2))
def b__law_due_row_2 : CSs := (.cons (.aug 7 .add (.bin .mul (.idx (.var 1) (.var 8)) (.agg .len (.q (.compIf [ 9 ] (.nm 9) (.r (.e (.idx (.idx (.idx (.var 0) (.lit (.int 2))) (.var 8)) (.lit (.int 3))))) (.v (.cmp .eq (.idx (.var 9) (.lit (.int 0))) (.var 5))) (.var 9)))))) .nil)
def b__law_due_row_3 : CSs := (.cons (.ex (.app (.var 4) (.call 24 (.cons (.var 7) (.cons (.dget (.var 2) (.var 3) (.lit (.int 1))) .nil))))) .nil)
def b__law_due_row_1 : CSs := (.cons (.set (.nm 7) (.lit (.int 0))) (.cons (.for (.nm 8) (.r (.e (.call 32 (.cons (.var 0) (.cons (.var 3) .nil))))) b__law_due_row_2) b__law_due_row_3))
def b__law_due_row_4 : CSs := (.cons (.ret (.agg .tuple (.e (.var 4)))) .nil)
def b__law_due_row : CSs := (.cons (.set (.nm 4) (.alloc (.disp .nil))) (.cons (.for (.tup [ 5 , 6 ]) (.r (.e (.idx (.var 0) (.lit (.int 1))))) b__law_due_row_1) b__law_due_row_4))
def b__law_due_chance_1 : CSs := (.cons (.set (.nm 4) (.bin .mul (.var 4) (.idx (.var 1) (.idx (.var 6) (.lit (.int 0)))))) (.cons (.set (.nm 5) (.bin .mul (.var 5) (.idx (.var 2) (.idx (.idx (.idx (.var 0) (.lit (.int 2))) (.idx (.var 6) (.lit (.int 0)))) (.lit (.int 0)))))) .nil))
def b__law_due_chance_2 : CSs := (.cons (.ret (.call 24 (.cons (.var 4) (.cons (.var 5) .nil)))) .nil)
def b__law_due_chance : CSs := (.cons (.set (.tup [ 4 , 5 ]) (.tup (.cons (.lit (.int 1)) (.cons (.lit (.int 1)) .nil)))) (.cons (.for (.nm 6) (.r (.e (.idx (.call 34 (.cons (.var 3) .nil)) (.lit (.int 0))))) b__law_due_chance_1) b__law_due_chance_2))
def b__law_is_row_1 : CSs := (.cons (.ret (.agg .all (.q (.comp [ 2 ] (.nm 2) (.rg (.lit (.int 0)) (.agg .len (.e (.var 1)))) (.and (.call 25 (.cons (.idx (.var 0) (.var 2)) .nil)) (.cmp .eq (.idx (.var 0) (.var 2)) (.idx (.var 1) (.var 2)))))))) .nil)
def b__law_is_row : CSs := (.cons (.ite (.or (.not (.v (.isi (.var 0) .tuple))) (.v (.cmp .ne (.agg .len (.e (.var 0))) (.agg .len (.e (.var 1)))))) (.cons (.ret (.lit (.bl false))) .nil) .nil) b__law_is_row_1)
def b__law_chance_builds_1 : CSs := (.cons (.set (.nm 4) (.call 37 (.cons (.var 0) (.cons (.var 1) (.cons (.idx (.call 18 (.cons (.var 0) (.cons (.idx (.var 1) (.lit (.int 1))) .nil))) (.lit (.int 0))) (.cons (.var 3) .nil)))))) (.cons (.ite (.v (.notN (.var 4))) (.cons (.ex (.app (.var 2) (.var 4))) .nil) .nil) .nil))
def b__law_chance_builds_2 : CSs := (.cons (.ret (.var 2)) .nil)
def b__law_chance_builds : CSs := (.cons (.set (.nm 2) (.alloc (.disp .nil))) (.cons (.for (.nm 3) (.r (.e (.tup (.cons (.lit (.int 1)) (.cons (.lit (.int 4)) (.cons (.lit (.int 15)) (.cons (.lit (.int 60)) .nil))))))) b__law_chance_builds_1) b__law_chance_builds_2))
def b__law_is_asked_2 : CSs := (.cons (.ite (.not (.v (.call 45 (.cons (.idx (.var 4) (.var 5)) (.cons (.call 43 (.cons (.var 0) (.cons (.var 1) (.cons (.var 3) (.cons (.idx (.idx (.idx (.var 0) (.lit (.int 1))) (.var 5)) (.lit (.int 0))) .nil))))) .nil))))) (.cons (.ret (.lit (.bl false))) .nil) .nil) .nil)
def b__law_is_asked_4 : CSs := (.cons (.set (.nm 7) (.call 13 (.cons (.var 0) (.cons (.var 1) (.cons (.var 6) .nil))))) (.cons (.ite (.or (.not (.v (.call 25 (.cons (.var 7) .nil)))) (.v (.cmp .ne (.var 7) (.call 44 (.cons (.var 0) (.cons (.var 1) (.cons (.var 3) (.cons (.var 6) .nil)))))))) (.cons (.ret (.lit (.bl false))) .nil) .nil) .nil))
def b__law_is_asked_5 : CSs := (.cons (.ret (.lit (.bl true))) .nil)
def b__law_is_asked_3 : CSs := (.cons (.for (.nm 6) (.r (.e (.var 2))) b__law_is_asked_4) b__law_is_asked_5)
def b__law_is_asked_1 : CSs := (.cons (.for (.nm 5) (.rg (.lit (.int 0)) (.agg .len (.e (.idx (.var 0) (.lit (.int 1)))))) b__law_is_asked_2) b__law_is_asked_3)
def b__law_is_asked : CSs := (.cons (.set (.nm 3) (.call 42 (.cons (.var 0) (.cons (.var 1) .nil)))) (.cons (.set (.nm 4) (.call 15 (.cons (.var 0) (.cons (.var 1) .nil)))) (.cons (.ite (.or (.not (.v (.isi (.var 4) .tuple))) (.v (.cmp .ne (.agg .len (.e (.var 4))) (.agg .len (.e (.idx (.var 0) (.lit (.int 1)))))))) (.cons (.ret (.lit (.bl false))) .nil) .nil) b__law_is_asked_1)))
def b_law_1 : CSs := (.cons (.ite (.not (.v (.call 47 (.cons (.var 2) (.cons (.var 8) (.cons (.var 7) .nil)))))) (.cons (.ret (.lit (.bl false))) .nil) .nil) .nil)
def b_law_2 : CSs := (.cons (.ret (.lit (.bl true))) .nil)
def b_law : CSs := (.cons (.set (.nm 1) (.call 16 (.cons (.var 0) .nil))) (.cons (.set (.nm 2) (.call 38 (.cons (.var 1) .nil))) (.cons (.set (.nm 3) (.call 41 (.cons (.var 1) (.cons (.var 2) .nil)))) (.cons (.set (.nm 4) (.call 41 (.cons (.var 1) (.cons (.var 2) .nil)))) (.cons (.set (.nm 5) (.cmp .le (.agg .max (.q (.cat (.q (.disp (.cons (.lit (.int 0)) .nil))) (.q (.list (.e (.var 3))))))) (.lit (.int 33)))) (.cons (.set (.nm 6) (.agg .tuple (.q (.comp [ 9 ] (.nm 9) (.r (.e (.var 3))) (.ife (.v (.var 5)) (.bin .mul (.var 9) (.lit (.int 3))) (.bin .sub (.lit (.int 100)) (.var 9))))))) (.cons (.set (.nm 7) (.call 46 (.cons (.var 1) (.cons (.var 2) .nil)))) (.cons (.for (.nm 8) (.r (.e (.tup (.cons (.var 3) (.cons (.var 4) (.cons (.var 3) (.cons (.var 6) .nil))))))) b_law_1) b_law_2))))))))
def T : List Fn := (([⟨"is_number", ["thing"], 1, b_is_number⟩,
  ⟨"is_between", ["thing", "low", "high"], 3, b_is_between⟩,
  ⟨"arity_in", ["names", "name", "known", "arity"], 2, b_arity_in⟩,
  ⟨"names_of", ["book", "name", "arity"], 1, b_names_of⟩,
  ⟨"arity_of", ["book", "name", "arity"], 2, b_arity_of⟩,
  ⟨"rules_of", ["book", "name", "number"], 2, b_rules_of⟩,
  ⟨"rule_at", ["book", "number"], 2, b_rule_at⟩,
  ⟨"slots_of", ["book", "number"], 2, b_slots_of⟩,
  ⟨"flat", ["build", "nodes", "below", "waiting", "node", "above", "place", "parts", "k"], 1, b_flat⟩,
  ⟨"frac", ["numerator", "denominator", "common"], 2, b_frac⟩,
  ⟨"plus", ["one", "other"], 2, b_plus⟩,
  ⟨"times", ["one", "other"], 2, b_times⟩,
  ⟨"rule_chance", ["book", "weights", "number", "numbers", "known"], 3, b_rule_chance⟩,
  ⟨"build_chance", ["book", "weights", "build", "found", "node"], 3, b_build_chance⟩,
  ⟨"mean_of", ["book", "weights", "name", "other", "found", "number", "many", "slot"], 4, b_mean_of⟩,
  ⟨"means", ["book", "weights", "names", "name", "other"], 2, b_means⟩,
  ⟨"_law_begin", ["script", "cell"], 1, b__law_begin⟩,
  ⟨"_law_draw", ["d", "many", "found", "size", "cell"], 2, b__law_draw⟩,
  ⟨"_law_pick", ["d", "row"], 2, b__law_pick⟩,
  ⟨"_law_rare", ["d", "many"], 2, b__law_rare⟩,
  ⟨"_law_shuffled", ["d", "row", "left", "found", "k"], 2, b__law_shuffled⟩,
  ⟨"_law_some", ["d", "row", "many"], 3, b__law_some⟩,
  ⟨"_law_is_int", ["thing"], 1, b__law_is_int⟩,
  ⟨"_law_gcd", ["a", "b"], 2, b__law_gcd⟩,
  ⟨"_law_frac", ["n", "d", "common"], 2, b__law_frac⟩,
  ⟨"_law_is_frac", ["thing"], 1, b__law_is_frac⟩,
  ⟨"_law_letters", ["d", "many"], 2, b__law_letters⟩,
  ⟨"_law_names", ["d", "many", "signs", "found", "first", "k"], 2, b__law_names⟩,
  ⟨"_law_ties", ["d", "spots", "many", "strands", "found", "k", "pair"], 4, b__law_ties⟩,
  ⟨"_law_marks", ["d", "many", "marks", "k"], 3, b__law_marks⟩] : List Fn) ++ ([⟨"_law_rule", ["d", "pair", "slots", "inner", "ties", "marks", "strands", "own", "spots", "told", "slot"], 7, b__law_rule⟩,
  ⟨"_law_book", ["d", "many", "arity", "more", "slots", "marks", "strands", "names", "pairs", "rules", "pair", "k", "used", "name", "j"], 7, b__law_book⟩,
  ⟨"_law_rules", ["book", "name", "k"], 2, b__law_rules⟩,
  ⟨"_law_parts", ["node"], 1, b__law_parts⟩,
  ⟨"_law_flat", ["thing", "nodes", "below", "waiting", "turn", "node", "above", "part"], 1, b__law_flat⟩,
  ⟨"_law_joined", ["rows", "built", "k", "rule", "many", "parts", "j"], 1, b__law_joined⟩,
  ⟨"_law_least", ["book", "least", "turn", "rule", "steps", "slot"], 1, b__law_least⟩,
  ⟨"_law_build", ["d", "book", "name", "most", "least", "spare", "rows", "waiting", "turn", "due", "open_rules", "number", "slots", "more", "k", "slot"], 4, b__law_build⟩,
  ⟨"_law_chance_book", ["d", "marks", "strands", "many", "more", "book", "k", "gone"], 1, b__law_chance_book⟩,
  ⟨"_law_long_name", ["name"], 1, b__law_long_name⟩,
  ⟨"_law_long_book", ["book", "names", "rules", "name", "marks", "ties", "slots", "longer", "arity", "slot"], 1, b__law_long_book⟩,
  ⟨"_law_chance_weights", ["d", "book", "way", "weights", "k", "rules", "level", "rule", "j"], 2, b__law_chance_weights⟩,
  ⟨"_law_weight_sums", ["book", "weights", "sums", "k", "name"], 2, b__law_weight_sums⟩,
  ⟨"_law_due_row", ["book", "weights", "sums", "name", "found", "other", "arity", "whole", "number", "slot"], 4, b__law_due_row⟩,
  ⟨"_law_due_chance", ["book", "weights", "sums", "build", "high", "low", "node"], 4, b__law_due_chance⟩,
  ⟨"_law_is_row", ["told", "due", "k"], 2, b__law_is_row⟩,
  ⟨"_law_chance_builds", ["d", "book", "found", "most", "build"], 2, b__law_chance_builds⟩,
  ⟨"_law_is_asked", ["book", "weights", "builds", "sums", "told", "k", "build", "chance"], 3, b__law_is_asked⟩,
  ⟨"law", ["script", "d", "book", "first", "second", "is_low", "third", "builds", "weights", "weight"], 1, b_law⟩] : List Fn))
abbrev n_is_number : Nat := 0
abbrev n_is_between : Nat := 1
abbrev n_arity_in : Nat := 2
abbrev n_names_of : Nat := 3
abbrev n_arity_of : Nat := 4
abbrev n_rules_of : Nat := 5
abbrev n_rule_at : Nat := 6
abbrev n_slots_of : Nat := 7
abbrev n_flat : Nat := 8
abbrev n_frac : Nat := 9
abbrev n_plus : Nat := 10
abbrev n_times : Nat := 11
abbrev n_rule_chance : Nat := 12
abbrev n_build_chance : Nat := 13
abbrev n_mean_of : Nat := 14
abbrev n_means : Nat := 15
abbrev n__law_begin : Nat := 16
abbrev n__law_draw : Nat := 17
abbrev n__law_pick : Nat := 18
abbrev n__law_rare : Nat := 19
abbrev n__law_shuffled : Nat := 20
abbrev n__law_some : Nat := 21
abbrev n__law_is_int : Nat := 22
abbrev n__law_gcd : Nat := 23
abbrev n__law_frac : Nat := 24
abbrev n__law_is_frac : Nat := 25
abbrev n__law_letters : Nat := 26
abbrev n__law_names : Nat := 27
abbrev n__law_ties : Nat := 28
abbrev n__law_marks : Nat := 29
abbrev n__law_rule : Nat := 30
abbrev n__law_book : Nat := 31
abbrev n__law_rules : Nat := 32
abbrev n__law_parts : Nat := 33
abbrev n__law_flat : Nat := 34
abbrev n__law_joined : Nat := 35
abbrev n__law_least : Nat := 36
abbrev n__law_build : Nat := 37
abbrev n__law_chance_book : Nat := 38
abbrev n__law_long_name : Nat := 39
abbrev n__law_long_book : Nat := 40
abbrev n__law_chance_weights : Nat := 41
abbrev n__law_weight_sums : Nat := 42
abbrev n__law_due_row : Nat := 43
abbrev n__law_due_chance : Nat := 44
abbrev n__law_is_row : Nat := 45
abbrev n__law_chance_builds : Nat := 46
abbrev n__law_is_asked : Nat := 47
abbrev n_law : Nat := 48
/-! ### the head -/
@[reducible] def dd (x : Str) (i : Nat) : He.DefD := ⟨(x, none), x, x, defArgs (top i), defBody (top i), defScope (top i), [], []⟩
def fn : List He.DefD := (([dd "is_number" 6, dd "is_between" 7, dd "arity_in" 9, dd "names_of" 10, dd "arity_of" 11, dd "rules_of" 12, dd "rule_at" 13, dd "slots_of" 14, dd "flat" 16, dd "frac" 20, dd "plus" 21, dd "times" 22, dd "rule_chance" 24, dd "build_chance" 25, dd "mean_of" 26, dd "means" 27, dd "_law_begin" 29, dd "_law_draw" 30, dd "_law_pick" 31, dd "_law_rare" 32, dd "_law_shuffled" 33, dd "_law_some" 34, dd "_law_is_int" 35, dd "_law_gcd" 36, dd "_law_frac" 37, dd "_law_is_frac" 38, dd "_law_letters" 39, dd "_law_names" 40, dd "_law_ties" 41, dd "_law_marks" 42] : List He.DefD) ++ ([dd "_law_rule" 43, dd "_law_book" 44, dd "_law_rules" 45, dd "_law_parts" 46, dd "_law_flat" 47, dd "_law_joined" 48, dd "_law_least" 49, dd "_law_build" 50, dd "_law_chance_book" 51, dd "_law_long_name" 52, dd "_law_long_book" 53, dd "_law_chance_weights" 54, dd "_law_weight_sums" 55, dd "_law_due_row" 56, dd "_law_due_chance" 57, dd "_law_is_row" 58, dd "_law_chance_builds" 59, dd "_law_is_asked" 60, dd "law" 61] : List He.DefD))
def fa : List He.Fa := (([.glo "is_number", .glo "is_between", .glo "arity_in", .glo "names_of", .glo "arity_of", .glo "rules_of", .glo "rule_at", .glo "slots_of", .glo "flat", .glo "frac", .glo "plus", .glo "times", .glo "rule_chance", .glo "build_chance", .glo "mean_of", .glo "means", .glo "_law_begin", .glo "_law_draw", .glo "_law_pick", .glo "_law_rare", .glo "_law_shuffled", .glo "_law_some", .glo "_law_is_int", .glo "_law_gcd", .glo "_law_frac", .glo "_law_is_frac", .glo "_law_letters", .glo "_law_names", .glo "_law_ties", .glo "_law_marks"] : List He.Fa) ++ ([.glo "_law_rule", .glo "_law_book", .glo "_law_rules", .glo "_law_parts", .glo "_law_flat", .glo "_law_joined", .glo "_law_least", .glo "_law_build", .glo "_law_chance_book", .glo "_law_long_name", .glo "_law_long_book", .glo "_law_chance_weights", .glo "_law_weight_sums", .glo "_law_due_row", .glo "_law_due_chance", .glo "_law_is_row", .glo "_law_chance_builds", .glo "_law_is_asked", .glo "law", .free "len", .free "range", .free "tuple", .free "int", .free "sorted", .free "isinstance", .free "list", .free "sum", .free "min", .free "max", .free "all"] : List He.Fa) ++ ([.free "str", .free "abs", .free "bool"] : List He.Fa))
abbrev R : PySem.W.OpenRow := PySem.W.OpenLaw.row PySem.Challenge.rw_everygrown_k87_chances_of_builds
abbrev hk : PySem.W.Hook := PQ.hookP 4 fa fn Gs
def ob (s : PySem.W.SharedT) : He.AlD × Bool := PQ.obP 4 fa fn Gs (HandSHeadRun.getT s)
theorem ob_eq (s : PySem.W.SharedT) : ob s = hk.obs s.abs := PQ.obP_eq (HandSHeadRun.getT_eq s)
def loose : List Str := ((["is_number", "is_between", "arity_in", "names_of", "arity_of", "rules_of", "rule_at", "slots_of", "flat", "frac", "plus", "times", "rule_chance", "build_chance", "mean_of", "means", "_law_begin", "_law_draw", "_law_pick", "_law_rare", "_law_shuffled", "_law_some", "_law_is_int", "_law_gcd", "_law_frac", "_law_is_frac", "_law_letters", "_law_names", "_law_ties", "_law_marks"] : List Str) ++ (["_law_rule", "_law_book", "_law_rules", "_law_parts", "_law_flat", "_law_joined", "_law_least", "_law_build", "_law_chance_book", "_law_long_name", "_law_long_book", "_law_chance_weights", "_law_weight_sums", "_law_due_row", "_law_due_chance", "_law_is_row", "_law_chance_builds", "_law_is_asked", "ZERO", "ONE", "GrownError", "NoName", "NoRule"] : List Str))
theorem run (w : World) : HandSHeadRun.RunEqI R (PySem.W.view R.prog [0, 61]) hk ob 12000 loose w := by
  unfold HandSHeadRun.RunEqI
  kernel_rfl
/-! ### each def is what the language says -/
theorem c_is_number : (cSs 60 60 ⟨names, B, ["thing"], defScope (top 6), Gs⟩ (defBody (top 6))).map (·.val) = some b_is_number := by kernel_rfl
theorem d_is_number {K : Fg} {h : Heap} {mg : Str → Option Value} (X : K.In h) (G : h.Ns mainGlobals mg) (c : He.SaysD fa fn K) : DefOk K mg names B Gs ⟨"is_number", ["thing"], 1, b_is_number⟩ :=
  def_ok (names := names) (B := B) (Gs := Gs) (N := ["thing"]) (ps := ["thing"]) X G c 0 (st := top 6) rfl 0 rfl c_is_number ⟨rfl, rfl, rfl, by decide +kernel, rfl, by decide +kernel, by decide +kernel⟩ rfl fun _ _ _ _ _ _ us hl => match us, hl with | [_], _ => rfl
theorem c_is_between : (cSs 60 60 ⟨names, B, ["thing", "low", "high"], defScope (top 7), Gs⟩ (defBody (top 7))).map (·.val) = some b_is_between := by kernel_rfl
theorem d_is_between {K : Fg} {h : Heap} {mg : Str → Option Value} (X : K.In h) (G : h.Ns mainGlobals mg) (c : He.SaysD fa fn K) : DefOk K mg names B Gs ⟨"is_between", ["thing", "low", "high"], 3, b_is_between⟩ :=
  def_ok (names := names) (B := B) (Gs := Gs) (N := ["thing", "low", "high"]) (ps := ["thing", "low", "high"]) X G c 1 (st := top 7) rfl 1 rfl c_is_between ⟨rfl, rfl, rfl, by decide +kernel, rfl, by decide +kernel, by decide +kernel⟩ rfl fun _ _ _ _ _ _ us hl => match us, hl with | [_, _, _], _ => rfl
theorem c_arity_in : (cSs 60 60 ⟨names, B, ["names", "name", "known", "arity"], defScope (top 9), Gs⟩ (defBody (top 9))).map (·.val) = some b_arity_in := by kernel_rfl
theorem d_arity_in {K : Fg} {h : Heap} {mg : Str → Option Value} (X : K.In h) (G : h.Ns mainGlobals mg) (c : He.SaysD fa fn K) : DefOk K mg names B Gs ⟨"arity_in", ["names", "name", "known", "arity"], 2, b_arity_in⟩ :=
  def_ok (names := names) (B := B) (Gs := Gs) (N := ["names", "name", "known", "arity"]) (ps := ["names", "name"]) X G c 2 (st := top 9) rfl 2 rfl c_arity_in ⟨rfl, rfl, rfl, by decide +kernel, rfl, by decide +kernel, by decide +kernel⟩ rfl fun _ _ _ _ _ _ us hl => match us, hl with | [_, _], _ => rfl
theorem c_names_of : (cSs 60 60 ⟨names, B, ["book", "name", "arity"], defScope (top 10), Gs⟩ (defBody (top 10))).map (·.val) = some b_names_of := by kernel_rfl
theorem d_names_of {K : Fg} {h : Heap} {mg : Str → Option Value} (X : K.In h) (G : h.Ns mainGlobals mg) (c : He.SaysD fa fn K) : DefOk K mg names B Gs ⟨"names_of", ["book", "name", "arity"], 1, b_names_of⟩ :=
  def_ok (names := names) (B := B) (Gs := Gs) (N := ["book", "name", "arity"]) (ps := ["book"]) X G c 3 (st := top 10) rfl 3 rfl c_names_of ⟨rfl, rfl, rfl, by decide +kernel, rfl, by decide +kernel, by decide +kernel⟩ rfl fun _ _ _ _ _ _ us hl => match us, hl with | [_], _ => rfl
theorem c_arity_of : (cSs 60 60 ⟨names, B, ["book", "name", "arity"], defScope (top 11), Gs⟩ (defBody (top 11))).map (·.val) = some b_arity_of := by kernel_rfl
theorem d_arity_of {K : Fg} {h : Heap} {mg : Str → Option Value} (X : K.In h) (G : h.Ns mainGlobals mg) (c : He.SaysD fa fn K) : DefOk K mg names B Gs ⟨"arity_of", ["book", "name", "arity"], 2, b_arity_of⟩ :=
  def_ok (names := names) (B := B) (Gs := Gs) (N := ["book", "name", "arity"]) (ps := ["book", "name"]) X G c 4 (st := top 11) rfl 4 rfl c_arity_of ⟨rfl, rfl, rfl, by decide +kernel, rfl, by decide +kernel, by decide +kernel⟩ rfl fun _ _ _ _ _ _ us hl => match us, hl with | [_, _], _ => rfl
theorem c_rules_of : (cSs 60 60 ⟨names, B, ["book", "name", "number"], defScope (top 12), Gs⟩ (defBody (top 12))).map (·.val) = some b_rules_of := by kernel_rfl
theorem d_rules_of {K : Fg} {h : Heap} {mg : Str → Option Value} (X : K.In h) (G : h.Ns mainGlobals mg) (c : He.SaysD fa fn K) : DefOk K mg names B Gs ⟨"rules_of", ["book", "name", "number"], 2, b_rules_of⟩ :=
  def_ok (names := names) (B := B) (Gs := Gs) (N := ["book", "name", "number"]) (ps := ["book", "name"]) X G c 5 (st := top 12) rfl 5 rfl c_rules_of ⟨rfl, rfl, rfl, by decide +kernel, rfl, by decide +kernel, by decide +kernel⟩ rfl fun _ _ _ _ _ _ us hl => match us, hl with | [_, _], _ => rfl
theorem c_rule_at : (cSs 60 60 ⟨names, B, ["book", "number"], defScope (top 13), Gs⟩ (defBody (top 13))).map (·.val) = some b_rule_at := by kernel_rfl
theorem d_rule_at {K : Fg} {h : Heap} {mg : Str → Option Value} (X : K.In h) (G : h.Ns mainGlobals mg) (c : He.SaysD fa fn K) : DefOk K mg names B Gs ⟨"rule_at", ["book", "number"], 2, b_rule_at⟩ :=
  def_ok (names := names) (B := B) (Gs := Gs) (N := ["book", "number"]) (ps := ["book", "number"]) X G c 6 (st := top 13) rfl 6 rfl c_rule_at ⟨rfl, rfl, rfl, by decide +kernel, rfl, by decide +kernel, by decide +kernel⟩ rfl fun _ _ _ _ _ _ us hl => match us, hl with | [_, _], _ => rfl
theorem c_slots_of : (cSs 60 60 ⟨names, B, ["book", "number"], defScope (top 14), Gs⟩ (defBody (top 14))).map (·.val) = some b_slots_of := by kernel_rfl
theorem d_slots_of {K : Fg} {h : Heap} {mg : Str → Option Value} (X : K.In h) (G : h.Ns mainGlobals mg) (c : He.SaysD fa fn K) : DefOk K mg names B Gs ⟨"slots_of", ["book", "number"], 2, b_slots_of⟩ :=
  def_ok (names := names) (B := B) (Gs := Gs) (N := ["book", "number"]) (ps := ["book", "number"]) X G c 7 (st := top 14) rfl 7 rfl c_slots_of ⟨rfl, rfl, rfl, by decide +kernel, rfl, by decide +kernel, by decide +kernel⟩ rfl fun _ _ _ _ _ _ us hl => match us, hl with | [_, _], _ => rfl
theorem c_flat : (cSs 60 60 ⟨names, B, ["build", "nodes", "below", "waiting", "node", "above", "place", "parts", "k"], defScope (top 16), Gs⟩ (defBody (top 16))).map (·.val) = some b_flat := by kernel_rfl
theorem d_flat {K : Fg} {h : Heap} {mg : Str → Option Value} (X : K.In h) (G : h.Ns mainGlobals mg) (c : He.SaysD fa fn K) : DefOk K mg names B Gs ⟨"flat", ["build", "nodes", "below", "waiting", "node", "above", "place", "parts", "k"], 1, b_flat⟩ :=
  def_ok (names := names) (B := B) (Gs := Gs) (N := ["build", "nodes", "below", "waiting", "node", "above", "place", "parts", "k"]) (ps := ["build"]) X G c 8 (st := top 16) rfl 8 rfl c_flat ⟨rfl, rfl, rfl, by decide +kernel, rfl, by decide +kernel, by decide +kernel⟩ rfl fun _ _ _ _ _ _ us hl => match us, hl with | [_], _ => rfl
theorem c_frac : (cSs 60 60 ⟨names, B, ["numerator", "denominator", "common"], defScope (top 20), Gs⟩ (defBody (top 20))).map (·.val) = some b_frac := by kernel_rfl
theorem d_frac {K : Fg} {h : Heap} {mg : Str → Option Value} (X : K.In h) (G : h.Ns mainGlobals mg) (c : He.SaysD fa fn K) : DefOk K mg names B Gs ⟨"frac", ["numerator", "denominator", "common"], 2, b_frac⟩ :=
  def_ok (names := names) (B := B) (Gs := Gs) (N := ["numerator", "denominator", "common"]) (ps := ["numerator", "denominator"]) X G c 9 (st := top 20) rfl 9 rfl c_frac ⟨rfl, rfl, rfl, by decide +kernel, rfl, by decide +kernel, by decide +kernel⟩ rfl fun _ _ _ _ _ _ us hl => match us, hl with | [_, _], _ => rfl
theorem c_plus : (cSs 60 60 ⟨names, B, ["one", "other"], defScope (top 21), Gs⟩ (defBody (top 21))).map (·.val) = some b_plus := by kernel_rfl
theorem d_plus {K : Fg} {h : Heap} {mg : Str → Option Value} (X : K.In h) (G : h.Ns mainGlobals mg) (c : He.SaysD fa fn K) : DefOk K mg names B Gs ⟨"plus", ["one", "other"], 2, b_plus⟩ :=
  def_ok (names := names) (B := B) (Gs := Gs) (N := ["one", "other"]) (ps := ["one", "other"]) X G c 10 (st := top 21) rfl 10 rfl c_plus ⟨rfl, rfl, rfl, by decide +kernel, rfl, by decide +kernel, by decide +kernel⟩ rfl fun _ _ _ _ _ _ us hl => match us, hl with | [_, _], _ => rfl
theorem c_times : (cSs 60 60 ⟨names, B, ["one", "other"], defScope (top 22), Gs⟩ (defBody (top 22))).map (·.val) = some b_times := by kernel_rfl
theorem d_times {K : Fg} {h : Heap} {mg : Str → Option Value} (X : K.In h) (G : h.Ns mainGlobals mg) (c : He.SaysD fa fn K) : DefOk K mg names B Gs ⟨"times", ["one", "other"], 2, b_times⟩ :=
  def_ok (names := names) (B := B) (Gs := Gs) (N := ["one", "other"]) (ps := ["one", "other"]) X G c 11 (st := top 22) rfl 11 rfl c_times ⟨rfl, rfl, rfl, by decide +kernel, rfl, by decide +kernel, by decide +kernel⟩ rfl fun _ _ _ _ _ _ us hl => match us, hl with | [_, _], _ => rfl
theorem c_rule_chance : (cSs 60 60 ⟨names, B, ["book", "weights", "number", "numbers", "known"], defScope (top 24), Gs⟩ (defBody (top 24))).map (·.val) = some b_rule_chance := by kernel_rfl
theorem d_rule_chance {K : Fg} {h : Heap} {mg : Str → Option Value} (X : K.In h) (G : h.Ns mainGlobals mg) (c : He.SaysD fa fn K) : DefOk K mg names B Gs ⟨"rule_chance", ["book", "weights", "number", "numbers", "known"], 3, b_rule_chance⟩ :=
  def_ok (names := names) (B := B) (Gs := Gs) (N := ["book", "weights", "number", "numbers", "known"]) (ps := ["book", "weights", "number"]) X G c 12 (st := top 24) rfl 12 rfl c_rule_chance ⟨rfl, rfl, rfl, by decide +kernel, rfl, by decide +kernel, by decide +kernel⟩ rfl fun _ _ _ _ _ _ us hl => match us, hl with | [_, _, _], _ => rfl
theorem c_build_chance : (cSs 60 60 ⟨names, B, ["book", "weights", "build", "found", "node"], defScope (top 25), Gs⟩ (defBody (top 25))).map (·.val) = some b_build_chance := by kernel_rfl
theorem d_build_chance {K : Fg} {h : Heap} {mg : Str → Option Value} (X : K.In h) (G : h.Ns mainGlobals mg) (c : He.SaysD fa fn K) : DefOk K mg names B Gs ⟨"build_chance", ["book", "weights", "build", "found", "node"], 3, b_build_chance⟩ :=
  def_ok (names := names) (B := B) (Gs := Gs) (N := ["book", "weights", "build", "found", "node"]) (ps := ["book", "weights", "build"]) X G c 13 (st := top 25) rfl 13 rfl c_build_chance ⟨rfl, rfl, rfl, by decide +kernel, rfl, by decide +kernel, by decide +kernel⟩ rfl fun _ _ _ _ _ _ us hl => match us, hl with | [_, _, _], _ => rfl
theorem c_mean_of : (cSs 60 60 ⟨names, B, ["book", "weights", "name", "other", "found", "number", "many", "slot"], defScope (top 26), Gs⟩ (defBody (top 26))).map (·.val) = some b_mean_of := by kernel_rfl
theorem d_mean_of {K : Fg} {h : Heap} {mg : Str → Option Value} (X : K.In h) (G : h.Ns mainGlobals mg) (c : He.SaysD fa fn K) : DefOk K mg names B Gs ⟨"mean_of", ["book", "weights", "name", "other", "found", "number", "many", "slot"], 4, b_mean_of⟩ :=
  def_ok (names := names) (B := B) (Gs := Gs) (N := ["book", "weights", "name", "other", "found", "number", "many", "slot"]) (ps := ["book", "weights", "name", "other"]) X G c 14 (st := top 26) rfl 14 rfl c_mean_of ⟨rfl, rfl, rfl, by decide +kernel, rfl, by decide +kernel, by decide +kernel⟩ rfl fun _ _ _ _ _ _ us hl => match us, hl with | [_, _, _, _], _ => rfl
theorem c_means : (cSs 60 60 ⟨names, B, ["book", "weights", "names", "name", "other"], defScope (top 27), Gs⟩ (defBody (top 27))).map (·.val) = some b_means := by kernel_rfl
theorem d_means {K : Fg} {h : Heap} {mg : Str → Option Value} (X : K.In h) (G : h.Ns mainGlobals mg) (c : He.SaysD fa fn K) : DefOk K mg names B Gs ⟨"means", ["book", "weights", "names", "name", "other"], 2, b_means⟩ :=
  def_ok (names := names) (B := B) (Gs := Gs) (N := ["book", "weights", "names", "name", "other"]) (ps := ["book", "weights"]) X G c 15 (st := top 27) rfl 15 rfl c_means ⟨rfl, rfl, rfl, by decide +kernel, rfl, by decide +kernel, by decide +kernel⟩ rfl fun _ _ _ _ _ _ us hl => match us, hl with | [_, _], _ => rfl
theorem c__law_begin : (cSs 60 60 ⟨names, B, ["script", "cell"], defScope (top 29), Gs⟩ (defBody (top 29))).map (·.val) = some b__law_begin := by kernel_rfl
theorem d__law_begin {K : Fg} {h : Heap} {mg : Str → Option Value} (X : K.In h) (G : h.Ns mainGlobals mg) (c : He.SaysD fa fn K) : DefOk K mg names B Gs ⟨"_law_begin", ["script", "cell"], 1, b__law_begin⟩ :=
  def_ok (names := names) (B := B) (Gs := Gs) (N := ["script", "cell"]) (ps := ["script"]) X G c 16 (st := top 29) rfl 16 rfl c__law_begin ⟨rfl, rfl, rfl, by decide +kernel, rfl, by decide +kernel, by decide +kernel⟩ rfl fun _ _ _ _ _ _ us hl => match us, hl with | [_], _ => rfl
theorem c__law_draw : (cSs 60 60 ⟨names, B, ["d", "many", "found", "size", "cell"], defScope (top 30), Gs⟩ (defBody (top 30))).map (·.val) = some b__law_draw := by kernel_rfl
theorem d__law_draw {K : Fg} {h : Heap} {mg : Str → Option Value} (X : K.In h) (G : h.Ns mainGlobals mg) (c : He.SaysD fa fn K) : DefOk K mg names B Gs ⟨"_law_draw", ["d", "many", "found", "size", "cell"], 2, b__law_draw⟩ :=
  def_ok (names := names) (B := B) (Gs := Gs) (N := ["d", "many", "found", "size", "cell"]) (ps := ["d", "many"]) X G c 17 (st := top 30) rfl 17 rfl c__law_draw ⟨rfl, rfl, rfl, by decide +kernel, rfl, by decide +kernel, by decide +kernel⟩ rfl fun _ _ _ _ _ _ us hl => match us, hl with | [_, _], _ => rfl
theorem c__law_pick : (cSs 60 60 ⟨names, B, ["d", "row"], defScope (top 31), Gs⟩ (defBody (top 31))).map (·.val) = some b__law_pick := by kernel_rfl
theorem d__law_pick {K : Fg} {h : Heap} {mg : Str → Option Value} (X : K.In h) (G : h.Ns mainGlobals mg) (c : He.SaysD fa fn K) : DefOk K mg names B Gs ⟨"_law_pick", ["d", "row"], 2, b__law_pick⟩ :=
  def_ok (names := names) (B := B) (Gs := Gs) (N := ["d", "row"]) (ps := ["d", "row"]) X G c 18 (st := top 31) rfl 18 rfl c__law_pick ⟨rfl, rfl, rfl, by decide +kernel, rfl, by decide +kernel, by decide +kernel⟩ rfl fun _ _ _ _ _ _ us hl => match us, hl with | [_, _], _ => rfl
theorem c__law_rare : (cSs 60 60 ⟨names, B, ["d", "many"], defScope (top 32), Gs⟩ (defBody (top 32))).map (·.val) = some b__law_rare := by kernel_rfl
theorem d__law_rare {K : Fg} {h : Heap} {mg : Str → Option Value} (X : K.In h) (G : h.Ns mainGlobals mg) (c : He.SaysD fa fn K) : DefOk K mg names B Gs ⟨"_law_rare", ["d", "many"], 2, b__law_rare⟩ :=
  def_ok (names := names) (B := B) (Gs := Gs) (N := ["d", "many"]) (ps := ["d", "many"]) X G c 19 (st := top 32) rfl 19 rfl c__law_rare ⟨rfl, rfl, rfl, by decide +kernel, rfl, by decide +kernel, by decide +kernel⟩ rfl fun _ _ _ _ _ _ us hl => match us, hl with | [_, _], _ => rfl
theorem c__law_shuffled : (cSs 60 60 ⟨names, B, ["d", "row", "left", "found", "k"], defScope (top 33), Gs⟩ (defBody (top 33))).map (·.val) = some b__law_shuffled := by kernel_rfl
theorem d__law_shuffled {K : Fg} {h : Heap} {mg : Str → Option Value} (X : K.In h) (G : h.Ns mainGlobals mg) (c : He.SaysD fa fn K) : DefOk K mg names B Gs ⟨"_law_shuffled", ["d", "row", "left", "found", "k"], 2, b__law_shuffled⟩ :=
  def_ok (names := names) (B := B) (Gs := Gs) (N := ["d", "row", "left", "found", "k"]) (ps := ["d", "row"]) X G c 20 (st := top 33) rfl 20 rfl c__law_shuffled ⟨rfl, rfl, rfl, by decide +kernel, rfl, by decide +kernel, by decide +kernel⟩ rfl fun _ _ _ _ _ _ us hl => match us, hl with | [_, _], _ => rfl
theorem c__law_some : (cSs 60 60 ⟨names, B, ["d", "row", "many"], defScope (top 34), Gs⟩ (defBody (top 34))).map (·.val) = some b__law_some := by kernel_rfl
theorem d__law_some {K : Fg} {h : Heap} {mg : Str → Option Value} (X : K.In h) (G : h.Ns mainGlobals mg) (c : He.SaysD fa fn K) : DefOk K mg names B Gs ⟨"_law_some", ["d", "row", "many"], 3, b__law_some⟩ :=
  def_ok (names := names) (B := B) (Gs := Gs) (N := ["d", "row", "many"]) (ps := ["d", "row", "many"]) X G c 21 (st := top 34) rfl 21 rfl c__law_some ⟨rfl, rfl, rfl, by decide +kernel, rfl, by decide +kernel, by decide +kernel⟩ rfl fun _ _ _ _ _ _ us hl => match us, hl with | [_, _, _], _ => rfl
theorem c__law_is_int : (cSs 60 60 ⟨names, B, ["thing"], defScope (top 35), Gs⟩ (defBody (top 35))).map (·.val) = some b__law_is_int := by kernel_rfl
theorem d__law_is_int {K : Fg} {h : Heap} {mg : Str → Option Value} (X : K.In h) (G : h.Ns mainGlobals mg) (c : He.SaysD fa fn K) : DefOk K mg names B Gs ⟨"_law_is_int", ["thing"], 1, b__law_is_int⟩ :=
  def_ok (names := names) (B := B) (Gs := Gs) (N := ["thing"]) (ps := ["thing"]) X G c 22 (st := top 35) rfl 22 rfl c__law_is_int ⟨rfl, rfl, rfl, by decide +kernel, rfl, by decide +kernel, by decide +kernel⟩ rfl fun _ _ _ _ _ _ us hl => match us, hl with | [_], _ => rfl
theorem c__law_gcd : (cSs 60 60 ⟨names, B, ["a", "b"], defScope (top 36), Gs⟩ (defBody (top 36))).map (·.val) = some b__law_gcd := by kernel_rfl
theorem d__law_gcd {K : Fg} {h : Heap} {mg : Str → Option Value} (X : K.In h) (G : h.Ns mainGlobals mg) (c : He.SaysD fa fn K) : DefOk K mg names B Gs ⟨"_law_gcd", ["a", "b"], 2, b__law_gcd⟩ :=
  def_ok (names := names) (B := B) (Gs := Gs) (N := ["a", "b"]) (ps := ["a", "b"]) X G c 23 (st := top 36) rfl 23 rfl c__law_gcd ⟨rfl, rfl, rfl, by decide +kernel, rfl, by decide +kernel, by decide +kernel⟩ rfl fun _ _ _ _ _ _ us hl => match us, hl with | [_, _], _ => rfl
theorem c__law_frac : (cSs 60 60 ⟨names, B, ["n", "d", "common"], defScope (top 37), Gs⟩ (defBody (top 37))).map (·.val) = some b__law_frac := by kernel_rfl
theorem d__law_frac {K : Fg} {h : Heap} {mg : Str → Option Value} (X : K.In h) (G : h.Ns mainGlobals mg) (c : He.SaysD fa fn K) : DefOk K mg names B Gs ⟨"_law_frac", ["n", "d", "common"], 2, b__law_frac⟩ :=
  def_ok (names := names) (B := B) (Gs := Gs) (N := ["n", "d", "common"]) (ps := ["n", "d"]) X G c 24 (st := top 37) rfl 24 rfl c__law_frac ⟨rfl, rfl, rfl, by decide +kernel, rfl, by decide +kernel, by decide +kernel⟩ rfl fun _ _ _ _ _ _ us hl => match us, hl with | [_, _], _ => rfl
theorem c__law_is_frac : (cSs 60 60 ⟨names, B, ["thing"], defScope (top 38), Gs⟩ (defBody (top 38))).map (·.val) = some b__law_is_frac := by kernel_rfl
theorem d__law_is_frac {K : Fg} {h : Heap} {mg : Str → Option Value} (X : K.In h) (G : h.Ns mainGlobals mg) (c : He.SaysD fa fn K) : DefOk K mg names B Gs ⟨"_law_is_frac", ["thing"], 1, b__law_is_frac⟩ :=
  def_ok (names := names) (B := B) (Gs := Gs) (N := ["thing"]) (ps := ["thing"]) X G c 25 (st := top 38) rfl 25 rfl c__law_is_frac ⟨rfl, rfl, rfl, by decide +kernel, rfl, by decide +kernel, by decide +kernel⟩ rfl fun _ _ _ _ _ _ us hl => match us, hl with | [_], _ => rfl
theorem c__law_letters : (cSs 60 60 ⟨names, B, ["d", "many"], defScope (top 39), Gs⟩ (defBody (top 39))).map (·.val) = some b__law_letters := by kernel_rfl
theorem d__law_letters {K : Fg} {h : Heap} {mg : Str → Option Value} (X : K.In h) (G : h.Ns mainGlobals mg) (c : He.SaysD fa fn K) : DefOk K mg names B Gs ⟨"_law_letters", ["d", "many"], 2, b__law_letters⟩ :=
  def_ok (names := names) (B := B) (Gs := Gs) (N := ["d", "many"]) (ps := ["d", "many"]) X G c 26 (st := top 39) rfl 26 rfl c__law_letters ⟨rfl, rfl, rfl, by decide +kernel, rfl, by decide +kernel, by decide +kernel⟩ rfl fun _ _ _ _ _ _ us hl => match us, hl with | [_, _], _ => rfl
theorem c__law_names : (cSs 60 60 ⟨names, B, ["d", "many", "signs", "found", "first", "k"], defScope (top 40), Gs⟩ (defBody (top 40))).map (·.val) = some b__law_names := by kernel_rfl
theorem d__law_names {K : Fg} {h : Heap} {mg : Str → Option Value} (X : K.In h) (G : h.Ns mainGlobals mg) (c : He.SaysD fa fn K) : DefOk K mg names B Gs ⟨"_law_names", ["d", "many", "signs", "found", "first", "k"], 2, b__law_names⟩ :=
  def_ok (names := names) (B := B) (Gs := Gs) (N := ["d", "many", "signs", "found", "first", "k"]) (ps := ["d", "many"]) X G c 27 (st := top 40) rfl 27 rfl c__law_names ⟨rfl, rfl, rfl, by decide +kernel, rfl, by decide +kernel, by decide +kernel⟩ rfl fun _ _ _ _ _ _ us hl => match us, hl with | [_, _], _ => rfl
theorem c__law_ties : (cSs 60 60 ⟨names, B, ["d", "spots", "many", "strands", "found", "k", "pair"], defScope (top 41), Gs⟩ (defBody (top 41))).map (·.val) = some b__law_ties := by kernel_rfl
theorem d__law_ties {K : Fg} {h : Heap} {mg : Str → Option Value} (X : K.In h) (G : h.Ns mainGlobals mg) (c : He.SaysD fa fn K) : DefOk K mg names B Gs ⟨"_law_ties", ["d", "spots", "many", "strands", "found", "k", "pair"], 4, b__law_ties⟩ :=
  def_ok (names := names) (B := B) (Gs := Gs) (N := ["d", "spots", "many", "strands", "found", "k", "pair"]) (ps := ["d", "spots", "many", "strands"]) X G c 28 (st := top 41) rfl 28 rfl c__law_ties ⟨rfl, rfl, rfl, by decide +kernel, rfl, by decide +kernel, by decide +kernel⟩ rfl fun _ _ _ _ _ _ us hl => match us, hl with | [_, _, _, _], _ => rfl
theorem c__law_marks : (cSs 60 60 ⟨names, B, ["d", "many", "marks", "k"], defScope (top 42), Gs⟩ (defBody (top 42))).map (·.val) = some b__law_marks := by kernel_rfl
theorem d__law_marks {K : Fg} {h : Heap} {mg : Str → Option Value} (X : K.In h) (G : h.Ns mainGlobals mg) (c : He.SaysD fa fn K) : DefOk K mg names B Gs ⟨"_law_marks", ["d", "many", "marks", "k"], 3, b__law_marks⟩ :=
  def_ok (names := names) (B := B) (Gs := Gs) (N := ["d", "many", "marks", "k"]) (ps := ["d", "many", "marks"]) X G c 29 (st := top 42) rfl 29 rfl c__law_marks ⟨rfl, rfl, rfl, by decide +kernel, rfl, by decide +kernel, by decide +kernel⟩ rfl fun _ _ _ _ _ _ us hl => match us, hl with | [_, _, _], _ => rfl
theorem c__law_rule : (cSs 60 60 ⟨names, B, ["d", "pair", "slots", "inner", "ties", "marks", "strands", "own", "spots", "told", "slot"], defScope (top 43), Gs⟩ (defBody (top 43))).map (·.val) = some b__law_rule := by kernel_rfl
theorem d__law_rule {K : Fg} {h : Heap} {mg : Str → Option Value} (X : K.In h) (G : h.Ns mainGlobals mg) (c : He.SaysD fa fn K) : DefOk K mg names B Gs ⟨"_law_rule", ["d", "pair", "slots", "inner", "ties", "marks", "strands", "own", "spots", "told", "slot"], 7, b__law_rule⟩ :=
  def_ok (names := names) (B := B) (Gs := Gs) (N := ["d", "pair", "slots", "inner", "ties", "marks", "strands", "own", "spots", "told", "slot"]) (ps := ["d", "pair", "slots", "inner", "ties", "marks", "strands"]) X G c 30 (st := top 43) rfl 30 rfl c__law_rule ⟨rfl, rfl, rfl, by decide +kernel, rfl, by decide +kernel, by decide +kernel⟩ rfl fun _ _ _ _ _ _ us hl => match us, hl with | [_, _, _, _, _, _, _], _ => rfl
theorem c__law_book : (cSs 60 60 ⟨names, B, ["d", "many", "arity", "more", "slots", "marks", "strands", "names", "pairs", "rules", "pair", "k", "used", "name", "j"], defScope (top 44), Gs⟩ (defBody (top 44))).map (·.val) = some b__law_book := by kernel_rfl
theorem d__law_book {K : Fg} {h : Heap} {mg : Str → Option Value} (X : K.In h) (G : h.Ns mainGlobals mg) (c : He.SaysD fa fn K) : DefOk K mg names B Gs ⟨"_law_book", ["d", "many", "arity", "more", "slots", "marks", "strands", "names", "pairs", "rules", "pair", "k", "used", "name", "j"], 7, b__law_book⟩ :=
  def_ok (names := names) (B := B) (Gs := Gs) (N := ["d", "many", "arity", "more", "slots", "marks", "strands", "names", "pairs", "rules", "pair", "k", "used", "name", "j"]) (ps := ["d", "many", "arity", "more", "slots", "marks", "strands"]) X G c 31 (st := top 44) rfl 31 rfl c__law_book ⟨rfl, rfl, rfl, by decide +kernel, rfl, by decide +kernel, by decide +kernel⟩ rfl fun _ _ _ _ _ _ us hl => match us, hl with | [_, _, _, _, _, _, _], _ => rfl
theorem c__law_rules : (cSs 60 60 ⟨names, B, ["book", "name", "k"], defScope (top 45), Gs⟩ (defBody (top 45))).map (·.val) = some b__law_rules := by kernel_rfl
theorem d__law_rules {K : Fg} {h : Heap} {mg : Str → Option Value} (X : K.In h) (G : h.Ns mainGlobals mg) (c : He.SaysD fa fn K) : DefOk K mg names B Gs ⟨"_law_rules", ["book", "name", "k"], 2, b__law_rules⟩ :=
  def_ok (names := names) (B := B) (Gs := Gs) (N := ["book", "name", "k"]) (ps := ["book", "name"]) X G c 32 (st := top 45) rfl 32 rfl c__law_rules ⟨rfl, rfl, rfl, by decide +kernel, rfl, by decide +kernel, by decide +kernel⟩ rfl fun _ _ _ _ _ _ us hl => match us, hl with | [_, _], _ => rfl
theorem c__law_parts : (cSs 60 60 ⟨names, B, ["node"], defScope (top 46), Gs⟩ (defBody (top 46))).map (·.val) = some b__law_parts := by kernel_rfl
theorem d__law_parts {K : Fg} {h : Heap} {mg : Str → Option Value} (X : K.In h) (G : h.Ns mainGlobals mg) (c : He.SaysD fa fn K) : DefOk K mg names B Gs ⟨"_law_parts", ["node"], 1, b__law_parts⟩ :=
  def_ok (names := names) (B := B) (Gs := Gs) (N := ["node"]) (ps := ["node"]) X G c 33 (st := top 46) rfl 33 rfl c__law_parts ⟨rfl, rfl, rfl, by decide +kernel, rfl, by decide +kernel, by decide +kernel⟩ rfl fun _ _ _ _ _ _ us hl => match us, hl with | [_], _ => rfl
theorem c__law_flat : (cSs 60 60 ⟨names, B, ["thing", "nodes", "below", "waiting", "turn", "node", "above", "part"], defScope (top 47), Gs⟩ (defBody (top 47))).map (·.val) = some b__law_flat := by kernel_rfl
theorem d__law_flat {K : Fg} {h : Heap} {mg : Str → Option Value} (X : K.In h) (G : h.Ns mainGlobals mg) (c : He.SaysD fa fn K) : DefOk K mg names B Gs ⟨"_law_flat", ["thing", "nodes", "below", "waiting", "turn", "node", "above", "part"], 1, b__law_flat⟩ :=
  def_ok (names := names) (B := B) (Gs := Gs) (N := ["thing", "nodes", "below", "waiting", "turn", "node", "above", "part"]) (ps := ["thing"]) X G c 34 (st := top 47) rfl 34 rfl c__law_flat ⟨rfl, rfl, rfl, by decide +kernel, rfl, by decide +kernel, by decide +kernel⟩ rfl fun _ _ _ _ _ _ us hl => match us, hl with | [_], _ => rfl
theorem c__law_joined : (cSs 60 60 ⟨names, B, ["rows", "built", "k", "rule", "many", "parts", "j"], defScope (top 48), Gs⟩ (defBody (top 48))).map (·.val) = some b__law_joined := by kernel_rfl
theorem d__law_joined {K : Fg} {h : Heap} {mg : Str → Option Value} (X : K.In h) (G : h.Ns mainGlobals mg) (c : He.SaysD fa fn K) : DefOk K mg names B Gs ⟨"_law_joined", ["rows", "built", "k", "rule", "many", "parts", "j"], 1, b__law_joined⟩ :=
  def_ok (names := names) (B := B) (Gs := Gs) (N := ["rows", "built", "k", "rule", "many", "parts", "j"]) (ps := ["rows"]) X G c 35 (st := top 48) rfl 35 rfl c__law_joined ⟨rfl, rfl, rfl, by decide +kernel, rfl, by decide +kernel, by decide +kernel⟩ rfl fun _ _ _ _ _ _ us hl => match us, hl with | [_], _ => rfl
theorem c__law_least : (cSs 60 60 ⟨names, B, ["book", "least", "turn", "rule", "steps", "slot"], defScope (top 49), Gs⟩ (defBody (top 49))).map (·.val) = some b__law_least := by kernel_rfl
theorem d__law_least {K : Fg} {h : Heap} {mg : Str → Option Value} (X : K.In h) (G : h.Ns mainGlobals mg) (c : He.SaysD fa fn K) : DefOk K mg names B Gs ⟨"_law_least", ["book", "least", "turn", "rule", "steps", "slot"], 1, b__law_least⟩ :=
  def_ok (names := names) (B := B) (Gs := Gs) (N := ["book", "least", "turn", "rule", "steps", "slot"]) (ps := ["book"]) X G c 36 (st := top 49) rfl 36 rfl c__law_least ⟨rfl, rfl, rfl, by decide +kernel, rfl, by decide +kernel, by decide +kernel⟩ rfl fun _ _ _ _ _ _ us hl => match us, hl with | [_], _ => rfl
theorem c__law_build : (cSs 60 60 ⟨names, B, ["d", "book", "name", "most", "least", "spare", "rows", "waiting", "turn", "due", "open_rules", "number", "slots", "more", "k", "slot"], defScope (top 50), Gs⟩ (defBody (top 50))).map (·.val) = some b__law_build := by kernel_rfl
theorem d__law_build {K : Fg} {h : Heap} {mg : Str → Option Value} (X : K.In h) (G : h.Ns mainGlobals mg) (c : He.SaysD fa fn K) : DefOk K mg names B Gs ⟨"_law_build", ["d", "book", "name", "most", "least", "spare", "rows", "waiting", "turn", "due", "open_rules", "number", "slots", "more", "k", "slot"], 4, b__law_build⟩ :=
  def_ok (names := names) (B := B) (Gs := Gs) (N := ["d", "book", "name", "most", "least", "spare", "rows", "waiting", "turn", "due", "open_rules", "number", "slots", "more", "k", "slot"]) (ps := ["d", "book", "name", "most"]) X G c 37 (st := top 50) rfl 37 rfl c__law_build ⟨rfl, rfl, rfl, by decide +kernel, rfl, by decide +kernel, by decide +kernel⟩ rfl fun _ _ _ _ _ _ us hl => match us, hl with | [_, _, _, _], _ => rfl
theorem c__law_chance_book : (cSs 60 60 ⟨names, B, ["d", "marks", "strands", "many", "more", "book", "k", "gone"], defScope (top 51), Gs⟩ (defBody (top 51))).map (·.val) = some b__law_chance_book := by kernel_rfl
theorem d__law_chance_book {K : Fg} {h : Heap} {mg : Str → Option Value} (X : K.In h) (G : h.Ns mainGlobals mg) (c : He.SaysD fa fn K) : DefOk K mg names B Gs ⟨"_law_chance_book", ["d", "marks", "strands", "many", "more", "book", "k", "gone"], 1, b__law_chance_book⟩ :=
  def_ok (names := names) (B := B) (Gs := Gs) (N := ["d", "marks", "strands", "many", "more", "book", "k", "gone"]) (ps := ["d"]) X G c 38 (st := top 51) rfl 38 rfl c__law_chance_book ⟨rfl, rfl, rfl, by decide +kernel, rfl, by decide +kernel, by decide +kernel⟩ rfl fun _ _ _ _ _ _ us hl => match us, hl with | [_], _ => rfl
theorem c__law_long_name : (cSs 60 60 ⟨names, B, ["name"], defScope (top 52), Gs⟩ (defBody (top 52))).map (·.val) = some b__law_long_name := by kernel_rfl
theorem d__law_long_name {K : Fg} {h : Heap} {mg : Str → Option Value} (X : K.In h) (G : h.Ns mainGlobals mg) (c : He.SaysD fa fn K) : DefOk K mg names B Gs ⟨"_law_long_name", ["name"], 1, b__law_long_name⟩ :=
  def_ok (names := names) (B := B) (Gs := Gs) (N := ["name"]) (ps := ["name"]) X G c 39 (st := top 52) rfl 39 rfl c__law_long_name ⟨rfl, rfl, rfl, by decide +kernel, rfl, by decide +kernel, by decide +kernel⟩ rfl fun _ _ _ _ _ _ us hl => match us, hl with | [_], _ => rfl
theorem c__law_long_book : (cSs 60 60 ⟨names, B, ["book", "names", "rules", "name", "marks", "ties", "slots", "longer", "arity", "slot"], defScope (top 53), Gs⟩ (defBody (top 53))).map (·.val) = some b__law_long_book := by kernel_rfl
theorem d__law_long_book {K : Fg} {h : Heap} {mg : Str → Option Value} (X : K.In h) (G : h.Ns mainGlobals mg) (c : He.SaysD fa fn K) : DefOk K mg names B Gs ⟨"_law_long_book", ["book", "names", "rules", "name", "marks", "ties", "slots", "longer", "arity", "slot"], 1, b__law_long_book⟩ :=
  def_ok (names := names) (B := B) (Gs := Gs) (N := ["book", "names", "rules", "name", "marks", "ties", "slots", "longer", "arity", "slot"]) (ps := ["book"]) X G c 40 (st := top 53) rfl 40 rfl c__law_long_book ⟨rfl, rfl, rfl, by decide +kernel, rfl, by decide +kernel, by decide +kernel⟩ rfl fun _ _ _ _ _ _ us hl => match us, hl with | [_], _ => rfl
theorem c__law_chance_weights : (cSs 60 60 ⟨names, B, ["d", "book", "way", "weights", "k", "rules", "level", "rule", "j"], defScope (top 54), Gs⟩ (defBody (top 54))).map (·.val) = some b__law_chance_weights := by kernel_rfl
theorem d__law_chance_weights {K : Fg} {h : Heap} {mg : Str → Option Value} (X : K.In h) (G : h.Ns mainGlobals mg) (c : He.SaysD fa fn K) : DefOk K mg names B Gs ⟨"_law_chance_weights", ["d", "book", "way", "weights", "k", "rules", "level", "rule", "j"], 2, b__law_chance_weights⟩ :=
  def_ok (names := names) (B := B) (Gs := Gs) (N := ["d", "book", "way", "weights", "k", "rules", "level", "rule", "j"]) (ps := ["d", "book"]) X G c 41 (st := top 54) rfl 41 rfl c__law_chance_weights ⟨rfl, rfl, rfl, by decide +kernel, rfl, by decide +kernel, by decide +kernel⟩ rfl fun _ _ _ _ _ _ us hl => match us, hl with | [_, _], _ => rfl
theorem c__law_weight_sums : (cSs 60 60 ⟨names, B, ["book", "weights", "sums", "k", "name"], defScope (top 55), Gs⟩ (defBody (top 55))).map (·.val) = some b__law_weight_sums := by kernel_rfl
theorem d__law_weight_sums {K : Fg} {h : Heap} {mg : Str → Option Value} (X : K.In h) (G : h.Ns mainGlobals mg) (c : He.SaysD fa fn K) : DefOk K mg names B Gs ⟨"_law_weight_sums", ["book", "weights", "sums", "k", "name"], 2, b__law_weight_sums⟩ :=
  def_ok (names := names) (B := B) (Gs := Gs) (N := ["book", "weights", "sums", "k", "name"]) (ps := ["book", "weights"]) X G c 42 (st := top 55) rfl 42 rfl c__law_weight_sums ⟨rfl, rfl, rfl, by decide +kernel, rfl, by decide +kernel, by decide +kernel⟩ rfl fun _ _ _ _ _ _ us hl => match us, hl with | [_, _], _ => rfl
theorem c__law_due_row : (cSs 60 60 ⟨names, B, ["book", "weights", "sums", "name", "found", "other", "arity", "whole", "number", "slot"], defScope (top 56), Gs⟩ (defBody (top 56))).map (·.val) = some b__law_due_row := by kernel_rfl
theorem d__law_due_row {K : Fg} {h : Heap} {mg : Str → Option Value} (X : K.In h) (G : h.Ns mainGlobals mg) (c : He.SaysD fa fn K) : DefOk K mg names B Gs ⟨"_law_due_row", ["book", "weights", "sums", "name", "found", "other", "arity", "whole", "number", "slot"], 4, b__law_due_row⟩ :=
  def_ok (names := names) (B := B) (Gs := Gs) (N := ["book", "weights", "sums", "name", "found", "other", "arity", "whole", "number", "slot"]) (ps := ["book", "weights", "sums", "name"]) X G c 43 (st := top 56) rfl 43 rfl c__law_due_row ⟨rfl, rfl, rfl, by decide +kernel, rfl, by decide +kernel, by decide +kernel⟩ rfl fun _ _ _ _ _ _ us hl => match us, hl with | [_, _, _, _], _ => rfl
theorem c__law_due_chance : (cSs 60 60 ⟨names, B, ["book", "weights", "sums", "build", "high", "low", "node"], defScope (top 57), Gs⟩ (defBody (top 57))).map (·.val) = some b__law_due_chance := by kernel_rfl
theorem d__law_due_chance {K : Fg} {h : Heap} {mg : Str → Option Value} (X : K.In h) (G : h.Ns mainGlobals mg) (c : He.SaysD fa fn K) : DefOk K mg names B Gs ⟨"_law_due_chance", ["book", "weights", "sums", "build", "high", "low", "node"], 4, b__law_due_chance⟩ :=
  def_ok (names := names) (B := B) (Gs := Gs) (N := ["book", "weights", "sums", "build", "high", "low", "node"]) (ps := ["book", "weights", "sums", "build"]) X G c 44 (st := top 57) rfl 44 rfl c__law_due_chance ⟨rfl, rfl, rfl, by decide +kernel, rfl, by decide +kernel, by decide +kernel⟩ rfl fun _ _ _ _ _ _ us hl => match us, hl with | [_, _, _, _], _ => rfl
theorem c__law_is_row : (cSs 60 60 ⟨names, B, ["told", "due", "k"], defScope (top 58), Gs⟩ (defBody (top 58))).map (·.val) = some b__law_is_row := by kernel_rfl
theorem d__law_is_row {K : Fg} {h : Heap} {mg : Str → Option Value} (X : K.In h) (G : h.Ns mainGlobals mg) (c : He.SaysD fa fn K) : DefOk K mg names B Gs ⟨"_law_is_row", ["told", "due", "k"], 2, b__law_is_row⟩ :=
  def_ok (names := names) (B := B) (Gs := Gs) (N := ["told", "due", "k"]) (ps := ["told", "due"]) X G c 45 (st := top 58) rfl 45 rfl c__law_is_row ⟨rfl, rfl, rfl, by decide +kernel, rfl, by decide +kernel, by decide +kernel⟩ rfl fun _ _ _ _ _ _ us hl => match us, hl with | [_, _], _ => rfl
theorem c__law_chance_builds : (cSs 60 60 ⟨names, B, ["d", "book", "found", "most", "build"], defScope (top 59), Gs⟩ (defBody (top 59))).map (·.val) = some b__law_chance_builds := by kernel_rfl
theorem d__law_chance_builds {K : Fg} {h : Heap} {mg : Str → Option Value} (X : K.In h) (G : h.Ns mainGlobals mg) (c : He.SaysD fa fn K) : DefOk K mg names B Gs ⟨"_law_chance_builds", ["d", "book", "found", "most", "build"], 2, b__law_chance_builds⟩ :=
  def_ok (names := names) (B := B) (Gs := Gs) (N := ["d", "book", "found", "most", "build"]) (ps := ["d", "book"]) X G c 46 (st := top 59) rfl 46 rfl c__law_chance_builds ⟨rfl, rfl, rfl, by decide +kernel, rfl, by decide +kernel, by decide +kernel⟩ rfl fun _ _ _ _ _ _ us hl => match us, hl with | [_, _], _ => rfl
theorem c__law_is_asked : (cSs 60 60 ⟨names, B, ["book", "weights", "builds", "sums", "told", "k", "build", "chance"], defScope (top 60), Gs⟩ (defBody (top 60))).map (·.val) = some b__law_is_asked := by kernel_rfl
theorem d__law_is_asked {K : Fg} {h : Heap} {mg : Str → Option Value} (X : K.In h) (G : h.Ns mainGlobals mg) (c : He.SaysD fa fn K) : DefOk K mg names B Gs ⟨"_law_is_asked", ["book", "weights", "builds", "sums", "told", "k", "build", "chance"], 3, b__law_is_asked⟩ :=
  def_ok (names := names) (B := B) (Gs := Gs) (N := ["book", "weights", "builds", "sums", "told", "k", "build", "chance"]) (ps := ["book", "weights", "builds"]) X G c 47 (st := top 60) rfl 47 rfl c__law_is_asked ⟨rfl, rfl, rfl, by decide +kernel, rfl, by decide +kernel, by decide +kernel⟩ rfl fun _ _ _ _ _ _ us hl => match us, hl with | [_, _, _], _ => rfl
theorem c_law : (cSs 60 60 ⟨names, B, ["script", "d", "book", "first", "second", "is_low", "third", "builds", "weights", "weight"], defScope (top 61), Gs⟩ (defBody (top 61))).map (·.val) = some b_law := by kernel_rfl
theorem d_law {K : Fg} {h : Heap} {mg : Str → Option Value} (X : K.In h) (G : h.Ns mainGlobals mg) (c : He.SaysD fa fn K) : DefOk K mg names B Gs ⟨"law", ["script", "d", "book", "first", "second", "is_low", "third", "builds", "weights", "weight"], 1, b_law⟩ :=
  def_ok (names := names) (B := B) (Gs := Gs) (N := ["script", "d", "book", "first", "second", "is_low", "third", "builds", "weights", "weight"]) (ps := ["script"]) X G c 48 (st := top 61) rfl 48 rfl c_law ⟨rfl, rfl, rfl, by decide +kernel, rfl, by decide +kernel, by decide +kernel⟩ rfl fun _ _ _ _ _ _ us hl => match us, hl with | [_], _ => rfl
theorem defs {K : Fg} {h : Heap} {mg : Str → Option Value} (X : K.In h) (G : h.Ns mainGlobals mg) (c : He.SaysD fa fn K) : ∀ f ∈ T, DefOk K mg names B Gs f := by
  intro f hf
  simp only [T, List.mem_append, List.mem_cons, List.not_mem_nil, or_false, or_assoc] at hf
  rcases hf with rfl | rfl | rfl | rfl | rfl | rfl | rfl | rfl | rfl | rfl | rfl | rfl | rfl | rfl | rfl | rfl | rfl | rfl | rfl | rfl | rfl | rfl | rfl | rfl | rfl | rfl | rfl | rfl | rfl | rfl | rfl | rfl | rfl | rfl | rfl | rfl | rfl | rfl | rfl | rfl | rfl | rfl | rfl | rfl | rfl | rfl | rfl | rfl | rfl
  · exact d_is_number X G c
  · exact d_is_between X G c
  · exact d_arity_in X G c
  · exact d_names_of X G c
  · exact d_arity_of X G c
  · exact d_rules_of X G c
  · exact d_rule_at X G c
  · exact d_slots_of X G c
  · exact d_flat X G c
  · exact d_frac X G c
  · exact d_plus X G c
  · exact d_times X G c
  · exact d_rule_chance X G c
  · exact d_build_chance X G c
  · exact d_mean_of X G c
  · exact d_means X G c
  · exact d__law_begin X G c
  · exact d__law_draw X G c
  · exact d__law_pick X G c
  · exact d__law_rare X G c
  · exact d__law_shuffled X G c
  · exact d__law_some X G c
  · exact d__law_is_int X G c
  · exact d__law_gcd X G c
  · exact d__law_frac X G c
  · exact d__law_is_frac X G c
  · exact d__law_letters X G c
  · exact d__law_names X G c
  · exact d__law_ties X G c
  · exact d__law_marks X G c
  · exact d__law_rule X G c
  · exact d__law_book X G c
  · exact d__law_rules X G c
  · exact d__law_parts X G c
  · exact d__law_flat X G c
  · exact d__law_joined X G c
  · exact d__law_least X G c
  · exact d__law_build X G c
  · exact d__law_chance_book X G c
  · exact d__law_long_name X G c
  · exact d__law_long_book X G c
  · exact d__law_chance_weights X G c
  · exact d__law_weight_sums X G c
  · exact d__law_due_row X G c
  · exact d__law_due_chance X G c
  · exact d__law_is_row X G c
  · exact d__law_chance_builds X G c
  · exact d__law_is_asked X G c
  · exact d_law X G c
theorem frees {K : Fg} {h : Heap} {mg : Str → Option Value} (X : K.In h) (G : h.Ns mainGlobals mg) (c : He.SaysD fa fn K) : ∀ x ∈ B, mg x = none := by
  intro x hx
  simp only [B, List.mem_cons, List.not_mem_nil, or_false] at hx
  rcases hx with rfl | rfl | rfl | rfl | rfl | rfl | rfl | rfl | rfl | rfl | rfl | rfl | rfl | rfl
  · exact He.free_ok X G (c.fact 49 (f := .free "len") rfl)
  · exact He.free_ok X G (c.fact 50 (f := .free "range") rfl)
  · exact He.free_ok X G (c.fact 51 (f := .free "tuple") rfl)
  · exact He.free_ok X G (c.fact 52 (f := .free "int") rfl)
  · exact He.free_ok X G (c.fact 53 (f := .free "sorted") rfl)
  · exact He.free_ok X G (c.fact 54 (f := .free "isinstance") rfl)
  · exact He.free_ok X G (c.fact 55 (f := .free "list") rfl)
  · exact He.free_ok X G (c.fact 56 (f := .free "sum") rfl)
  · exact He.free_ok X G (c.fact 57 (f := .free "min") rfl)
  · exact He.free_ok X G (c.fact 58 (f := .free "max") rfl)
  · exact He.free_ok X G (c.fact 59 (f := .free "all") rfl)
  · exact He.free_ok X G (c.fact 60 (f := .free "str") rfl)
  · exact He.free_ok X G (c.fact 61 (f := .free "abs") rfl)
  · exact He.free_ok X G (c.fact 62 (f := .free "bool") rfl)
end K87
section
open PySem PySem.Spec PyProof.Rows L2 PQ
namespace K87
local macro_rules
  | `(tactic| mul_fits) => `(tactic| (repeat (first
    | (with_reducible refine PQ.w_scons ?_)
    | ((with_reducible apply PQ.w_var); (focus (exact rfl)))
    | (with_reducible refine PQ.w_bin ?_)
    | (with_reducible refine PQ.w_call ?_)
    | (with_reducible refine PQ.w_cons ?_)
    | (with_reducible refine PQ.w_nil ?_)
    | (with_reducible refine PQ.w_lit ?_)
    | (with_reducible refine PQ.w_cmp ?_)
    | (with_reducible refine PQ.w_idx ?_)
    | (with_reducible refine PQ.w_set ?_)
    | (with_reducible refine PQ.w_ret ?_)
    | (with_reducible refine PQ.w_ite ?_)
    | (with_reducible refine PQ.w_tv ?_)
    | (with_reducible refine PQ.w_tnot ?_)
    | (with_reducible refine PQ.w_nx ?_)
    | (with_reducible refine PQ.w_rt ?_)
    | (with_reducible refine PQ.w_if_t ?_)
    | (with_reducible refine PQ.w_if_f ?_)
    | (with_reducible refine PQ.w_if_nt ?_)
    | (with_reducible refine PQ.w_if_nf ?_)
    | (with_reducible refine PQ.w_tru_b ?_)
    | (with_reducible refine PQ.w_tru_i ?_)
    | (with_reducible refine PQ.w_tru_t ?_)
    | (with_reducible refine PQ.w_ok ?_)
    | (with_reducible refine PQ.w_snil ?_)
    | (with_reducible refine PQ.w_ex ?_)
    | (with_reducible refine PQ.w_agg ?_)
    | (with_reducible refine PQ.w_fn1 ?_)
    | (with_reducible refine PQ.w_fn2 ?_)
    | (with_reducible refine PQ.w_tup ?_)
    | (with_reducible refine PQ.w_alloc ?_)
    | (with_reducible refine PQ.w_disp ?_)
    | (with_reducible refine PQ.w_e ?_)
    | (with_reducible refine PQ.w_q ?_)
    | (with_reducible refine PQ.w_ir ?_)
    | (with_reducible refine PQ.w_for ?_)
    | (with_reducible refine PQ.w_comp ?_)
    | (with_reducible refine PQ.w_compIf ?_)
    | (with_reducible refine PQ.w_and ?_)
    | (with_reducible refine PQ.w_or ?_)
    | (with_reducible refine PQ.w_not ?_)
    | (with_reducible refine PQ.w_ife ?_)
    | (with_reducible refine PQ.w_slc ?_)
    | (with_reducible refine PQ.w_oN ?_)
    | (with_reducible refine PQ.w_isi ?_)
    | (with_reducible refine PQ.w_app ?_)
    | (with_reducible refine PQ.w_ext ?_)
    | (with_reducible refine PQ.w_pop ?_)
    | (with_reducible refine PQ.w_popAt ?_)
    | (with_reducible refine PQ.w_join ?_)
    | (with_reducible refine PQ.w_tix ?_)
    | (with_reducible refine PQ.w_isN ?_)
    | (with_reducible refine PQ.w_notN ?_)
    | (with_reducible refine PQ.w_inr ?_)
    | (with_reducible refine PQ.w_notInr ?_)
    | (with_reducible refine PQ.w_chn ?_)
    | (with_reducible refine PQ.w_tand ?_)
    | (with_reducible refine PQ.w_tor ?_)
    | (with_reducible refine PQ.w_cat ?_)
    | (with_reducible refine PQ.w_sorted ?_)
    | (with_reducible refine PQ.w_list ?_)
    | (with_reducible refine PQ.w_rev ?_)
    | (with_reducible refine PQ.w_setT ?_)
    | (with_reducible refine PQ.w_par ?_)
    | (with_reducible refine PQ.w_sub ?_)
    | (with_reducible refine PQ.w_bk ?_)
    | (with_reducible refine PQ.w_ct ?_)
    | (with_reducible refine PQ.w_brk ?_)
    | (with_reducible refine PQ.w_cont ?_)
    | (with_reducible refine PQ.w_pass ?_)
    | (with_reducible refine PQ.w_dnew ?_)
    | (with_reducible refine PQ.w_dget ?_)
    | (with_reducible refine PQ.v_add ?_)
    | (with_reducible refine PQ.v_addB ?_)
    | (with_reducible refine PQ.v_sub ?_)
    | (with_reducible refine PQ.v_band ?_)
    | (with_reducible refine PQ.v_bor ?_)
    | (with_reducible refine PQ.v_bxor ?_)
    | (with_reducible refine PQ.v_augAdd ?_)
    | (with_reducible refine PQ.v_augSub ?_)
    | (with_reducible refine PQ.v_lt ?_)
    | (with_reducible refine PQ.v_le ?_)
    | (with_reducible refine PQ.v_gt ?_)
    | (with_reducible refine PQ.v_ge ?_)
    | (with_reducible refine PQ.v_eq ?_)
    | (with_reducible refine PQ.v_ne ?_)
    | (with_reducible refine PQ.v_eqS ?_)
    | (with_reducible refine PQ.v_neS ?_)
    | (with_reducible refine PQ.v_eqB ?_)
    | (with_reducible refine PQ.v_intI ?_)
    | (with_reducible refine PQ.v_intB ?_)
    | (with_reducible refine PQ.v_abs ?_)
    | (with_reducible refine PQ.v_gcd ?_)
    | (with_reducible refine PQ.v_min2 ?_)
    | (with_reducible refine PQ.v_max2 ?_)
    | (with_reducible refine PQ.v_slcT ?_)
    | (with_reducible refine PQ.w_bind ?_)
    | (with_reducible refine PQ.r_nx ?_)
    | (with_reducible refine PQ.r_rt ?_)
    | (with_reducible refine PQ.g_self ?_)
    | ((with_reducible apply PQ.w_aug); (focus (exact rfl)))
    | (with_reducible refine PQ.w_neg ?_)
    | (with_reducible refine PQ.w_oS ?_)
    | (with_reducible refine PQ.w_listRg ?_)
    | (with_reducible refine PQ.w_rg ?_)
    | (with_reducible refine PQ.w_rgd ?_)
    | (with_reducible refine PQ.w_augS ?_)
    | ((with_reducible apply PQ.v_mul); (focus (first | assumption | exact .of_left (by decide +kernel) | exact .of_right (by decide +kernel))))
    | ((with_reducible apply PQ.v_fdiv); (focus (first | assumption | exact ⟨by omega, PyProof.noPylong_small (by omega)⟩)))
    | ((with_reducible apply PQ.v_mod); (focus (first | assumption | omega)))
    | ((with_reducible apply PQ.v_pow); (focus (first | assumption | (unfold CPow; decide +kernel) | (unfold CPow; omega))))
    | ((with_reducible apply PQ.v_shl); (focus (first | assumption | (unfold CPow; decide +kernel) | (unfold CPow; omega))))
    | ((with_reducible apply PQ.v_shr); (focus (first | assumption | omega)))
    | ((with_reducible apply PQ.v_idx); (focus (first | exact rfl | assumption)); (focus (first | exact rfl | assumption)))
    | ((with_reducible apply PQ.v_idxT); (focus (first | exact rfl | assumption)))
    | ((with_reducible apply PQ.v_idxF); (focus (first | exact rfl | assumption)))
    | ((with_reducible apply PQ.v_len); (focus (first | exact rfl | assumption)))
    | ((with_reducible apply PQ.v_tuple); (focus (first | exact rfl | assumption)))
    | ((with_reducible apply PQ.v_sum); (focus (first | exact rfl | assumption)); (focus (first | exact rfl | assumption)))
    | ((with_reducible apply PQ.v_all); (focus (first | exact rfl | assumption)); (focus (first | exact rfl | assumption)))
    | ((with_reducible apply PQ.v_any); (focus (first | exact rfl | assumption)); (focus (first | exact rfl | assumption)))
    | ((with_reducible apply PQ.v_slc); (focus (first | exact rfl | assumption)))
    | ((with_reducible apply PQ.v_set); (focus (first | exact rfl | assumption)); (focus (first | exact rfl | assumption)))
    | ((with_reducible apply PQ.v_lenS); (focus (refine Nat.le_trans (Nat.le_refl _) ?_; first | assumption | (refine PQ.le64 ?_; simp; done) | omega)))
    | ((with_reducible apply PQ.v_idxS); (focus (refine Nat.le_trans (Nat.le_refl _) ?_; first | assumption | (refine PQ.le64 ?_; simp; done) | omega)); (focus (first | exact rfl | assumption)))
    | ((with_reducible apply PQ.w_withL); (focus (first | exact rfl | assumption)))
    | ((with_reducible apply PQ.v_app); (focus (first | exact rfl | assumption)); (focus (first | assumption | exact Nat.lt_of_lt_of_le (Nat.lt_succ_self _) (Nat.le_of_ble_eq_true rfl) | omega)))
    | ((with_reducible apply PQ.v_addT); (focus (refine Nat.le_trans (Nat.le_refl _) ?_; first | assumption | (refine PQ.le64 ?_; simp; done) | omega)))
    | ((with_reducible apply PQ.v_addS); (focus (refine Nat.le_trans (Nat.le_refl _) ?_; first | assumption | (refine PQ.le64 ?_; simp; done) | omega)))
    | ((with_reducible apply PQ.v_addL); (focus (first | exact rfl | assumption)); (focus (first | exact rfl | assumption)); (focus (refine Nat.le_trans (Nat.le_refl _) ?_; first | assumption | (refine PQ.le64 ?_; simp; done) | omega)))
    | ((with_reducible apply PQ.w_tru_r); (focus (first | exact rfl | assumption)))
    | ((with_reducible apply PQ.w_if_T); (focus (exact rfl)))
    | ((with_reducible apply PQ.w_if_F); (focus (exact rfl)))
    | ((with_reducible apply PQ.w_may); (focus (exact rfl)))
    | ((with_reducible apply PQ.v_idxK); (focus (assumption)); (focus (exact rfl)); (focus (assumption)))
    | ((with_reducible apply PQ.v_setK); (focus (assumption)); (focus (exact rfl)); (focus (first | assumption | exact Nat.lt_of_lt_of_le (Nat.lt_succ_self _) (Nat.le_of_ble_eq_true rfl) | omega)))
    | ((with_reducible apply PQ.w_withD); (focus (assumption)))
    | ((with_reducible apply PQ.v_dget); (focus (assumption)); (focus (exact rfl)))
    | ((with_reducible apply PQ.v_lenD); (focus (assumption)))
    | ((with_reducible apply PQ.w_mayI); (focus (assumption)))
    | ((with_reducible apply PQ.w_mayL); (focus (assumption)))
    | ((with_reducible apply PQ.w_mayS); (focus (assumption)))
    | ((with_reducible apply PQ.w_mayT); (focus (assumption)))
    | ((with_reducible apply PQ.w_mayO); (focus (assumption)))
    | ((with_reducible apply PQ.v_lenR); (focus (assumption)))
    | ((with_reducible apply PQ.v_tupleR); (focus (assumption)))
    | ((with_reducible refine ⟨_, rfl, ?_⟩))
    | ((with_reducible apply PQ.w_augK); (focus (first | exact rfl | assumption)); (focus (first | exact rfl | assumption)))
    | ((with_reducible refine ⟨_, _, rfl, rfl, ?_, ?_⟩); (focus (first | assumption | (unfold bd62; omega) | (unfold RgOk; omega))))
    | ((with_reducible refine ⟨?_, ?_⟩); (focus (refine Nat.le_trans (Nat.le_refl _) ?_; first | assumption | (refine PQ.le64 ?_; simp; done) | omega))))))
/-! ### fractions as rational numbers -/
def qD (q : Rat) : D := .tup [.int q.num, .int (q.den : Int)]
def QB (n : Nat) (q : Rat) : Prop := q.num.natAbs < 2 ^ n ∧ q.den < 2 ^ n
theorem QB.mono {m n : Nat} {q : Rat} (h : QB m q) (hm : m ≤ n) : QB n q := ⟨Nat.lt_of_lt_of_le h.1 (Nat.pow_le_pow_right (by decide) hm), Nat.lt_of_lt_of_le h.2 (Nat.pow_le_pow_right (by decide) hm)⟩
def gg (n d : Int) : Int := ((Nat.gcd n.natAbs d.natAbs : Nat) : Int)
theorem gg_pos {n d : Int} (hd : d ≠ 0) : 0 < gg n d := by
  unfold gg
  have := Nat.gcd_pos_of_pos_right n.natAbs (n := d.natAbs) (by omega)
  omega
theorem gg_bd {n d : Int} {k : Nat} (hd : d ≠ 0) (h : d.natAbs < 2 ^ k) : (gg n d).natAbs < 2 ^ k := by
  unfold gg
  have := Nat.le_of_dvd (by omega) (Nat.gcd_dvd_right n.natAbs d.natAbs)
  rw [Int.natAbs_natCast]
  omega
theorem gg_neg {n d : Int} : gg (-n) (-d) = gg n d := by
  unfold gg
  rw [Int.natAbs_neg, Int.natAbs_neg]
theorem div_pos {n d : Int} (hd : 0 < d) : (Rat.divInt n d).num = n.fdiv (gg n d) ∧ ((Rat.divInt n d).den : Int) = d.fdiv (gg n d) := by
  have hg := gg_pos (n := n) (d := d) (by omega)
  have eg : ((d.gcd n : Nat) : Int) = gg n d := by
    unfold gg
    rw [Int.gcd_comm]
    rfl
  rw [Rat.num_divInt, Rat.den_divInt, if_neg (by omega), Int.sign_eq_one_of_pos hd, Int.one_mul, eg, Int.fdiv_eq_ediv_of_nonneg _ (Int.le_of_lt hg), Int.fdiv_eq_ediv_of_nonneg _ (Int.le_of_lt hg)]
  refine ⟨rfl, ?_⟩
  rw [Int.natCast_ediv, eg, Int.natAbs_of_nonneg (Int.le_of_lt hd)]
theorem div_neg {n d : Int} (hd : d < 0) : (Rat.divInt n d).num = (-n).fdiv (gg n d) ∧ ((Rat.divInt n d).den : Int) = (-d).fdiv (gg n d) := by
  have h := div_pos (n := -n) (d := -d) (by omega)
  rw [gg_neg, Rat.neg_divInt_neg] at h
  exact h
section
variable {k : Nat} {S : Sto} {Q : D → Sto → Prop} {n d a b c e : Int}
theorem qD_pos (hd : 0 < d) : qD (Rat.divInt n d) = .tup [.int (n.fdiv (gg n d)), .int (d.fdiv (gg n d))] := by
  unfold qD
  rw [(div_pos hd).1, (div_pos hd).2]
theorem qD_neg (hd : d < 0) : qD (Rat.divInt n d) = .tup [.int ((-n).fdiv (gg n d)), .int ((-d).fdiv (gg n d))] := by
  unfold qD
  rw [(div_neg hd).1, (div_neg hd).2]
theorem frac_w (hd : d ≠ 0) (hb : d.natAbs < 2 ^ 3000) (h : Q (qD (Rat.divInt n d)) S) : W (orc T (k + 1) n_frac [.int n, .int d] S) Q := by
  refine orc_w (ρ := [some (.int n), some (.int d), none]) rfl rfl rfl ?_
  show W (evSs _ b_frac _ _) _
  simp only [b_frac]
  have hg := gg_pos (n := n) hd
  have hgb := bd_mono (gg_bd (n := n) hd hb) (by decide : 3000 ≤ 8000)
  mul_fits
  refine w_ifd (fun c => ?_) fun c => ?_
  · have hgb2 : (-gg n d).natAbs < 2 ^ 8000 := by rwa [Int.natAbs_neg]
    have k1 : FDivOk n (-gg n d) := fdiv_small (by omega) hgb2 n
    have k2 : FDivOk d (-gg n d) := fdiv_small (by omega) hgb2 d
    mul_fits
    simp only [b_frac_1]
    mul_fits
    rw [qD_neg c, ← Int.neg_fdiv_neg (-n), ← Int.neg_fdiv_neg (-d), Int.neg_neg, Int.neg_neg] at h
    exact h
  · have k1 : FDivOk n (gg n d) := fdiv_small (by omega) hgb n
    have k2 : FDivOk d (gg n d) := fdiv_small (by omega) hgb d
    mul_fits
    simp only [b_frac_1]
    mul_fits
    rw [qD_pos (by omega)] at h
    exact h
theorem gcd_w (ha : a.natAbs < 2 ^ 3000) (hb : b.natAbs < 2 ^ 3000) (h : Q (.int (gg a b)) S) : W (orc T (k + 1) n__law_gcd [.int a, .int b] S) Q := by
  refine orc_w (ρ := [some (.int a), some (.int b)]) rfl rfl rfl ?_
  show W (evSs _ b__law_gcd _ _) _
  simp only [b__law_gcd]
  mul_fits
  have abs_ : ∀ x : Int, (if x < 0 then -x else x) = ((x.natAbs : Nat) : Int) := fun x => by split <;> omega
  rw [abs_, abs_]
  refine while_w (fun m ρ S' => S' = S ∧ ∃ x y : Nat, ρ = [some (.int (x : Int)), some (.int (y : Int))] ∧ Nat.gcd x y = Nat.gcd a.natAbs b.natAbs ∧ (y = 0 ∨ (y < x ∧ x * y < 2 ^ m) ∨ ∃ m', m = m' + 1 ∧ y * y < 2 ^ m')) ?_ 6001 _ _ _ (by decide) ⟨rfl, _, _, rfl, rfl, .inr (.inr ⟨6000, rfl, ?_⟩)⟩
  · rintro m ρ S' ⟨rfl, x, y, rfl, hg, hc⟩
    mul_fits
    refine ⟨fun z => ?_, fun z => ?_⟩
    · have y0 : y ≠ 0 := by
        intro q
        subst q
        simp at z
      have hz : ∀ m', y * (x % y) < 2 ^ m' ∨ False → (x % y = 0 ∨ (x % y < y ∧ y * (x % y) < 2 ^ m') ∨ ∃ m'', m' = m'' + 1 ∧ (x % y) * (x % y) < 2 ^ m'') := fun m' hm => .inr (.inl ⟨Nat.mod_lt _ (by omega), by simpa using hm⟩)
      have em : (((x : Nat) : Int).fmod ((y : Nat) : Int)) = ((x % y : Nat) : Int) := by
        rw [Int.fmod_eq_emod_of_nonneg _ (by omega)]
        rfl
      have go : ∀ m', y * (x % y) < 2 ^ m' → W (evSs (orc T k) b__law_gcd_1 [some (.int (x : Int)), some (.int (y : Int))] S') fun fl S2 => ∃ ρ', (fl = .nx ρ' ∨ fl = .ct ρ') ∧ S2 = S' ∧ ∃ x y : Nat, ρ' = [some (.int (x : Int)), some (.int (y : Int))] ∧ Nat.gcd x y = Nat.gcd a.natAbs b.natAbs ∧ (y = 0 ∨ (y < x ∧ x * y < 2 ^ m') ∨ ∃ m'', m' = m'' + 1 ∧ y * y < 2 ^ m'') := by
        intro m' hm
        simp only [b__law_gcd_1]
        mul_fits
        rw [em]
        exact ⟨_, .inl rfl, rfl, y, x % y, rfl, by rw [← hg, Nat.gcd_comm y, ← Nat.gcd_rec, Nat.gcd_comm], hz m' (.inl hm)⟩
      rcases hc with hc | ⟨h1, h2⟩ | ⟨m', rfl, h2⟩
      · exact absurd hc y0
      · cases m with
        | zero =>
          have : 1 ≤ x * y := Nat.mul_pos (by omega) (by omega)
          omega
        | succ m =>
          refine ⟨m, rfl, go m ?_⟩
          have q1 : x % y < y := Nat.mod_lt _ (by omega)
          have q2 : x % y + y ≤ x := by
            have := Nat.mod_add_div x y
            have q3 : 1 ≤ x / y := Nat.div_pos (by omega) (by omega)
            have : y * 1 ≤ y * (x / y) := Nat.mul_le_mul_left y q3
            omega
          have q4 : y * (2 * (x % y)) ≤ y * x := Nat.mul_le_mul_left y (by omega)
          rw [Nat.pow_succ] at h2
          have q5 : y * (2 * (x % y)) = 2 * (y * (x % y)) := by rw [Nat.mul_left_comm]
          have q6 : x * y = y * x := Nat.mul_comm _ _
          omega
      · refine ⟨m', rfl, go m' (Nat.lt_of_le_of_lt (Nat.mul_le_mul_left y (Nat.le_of_lt (Nat.mod_lt _ (by omega)))) h2)⟩
    · have y0 : y = 0 := by
        simp at z
        omega
      subst y0
      mul_fits
      simp only [b__law_gcd_2]
      mul_fits
      unfold gg at h
      rw [← hg, Nat.gcd_zero_right] at h
      exact h
  · have : b.natAbs * b.natAbs < 2 ^ 3000 * 2 ^ 3000 := Nat.mul_lt_mul_of_lt_of_le hb (Nat.le_of_lt hb) (Nat.two_pow_pos _)
    rw [← Nat.pow_add] at this
    exact this
theorem lfrac_w (hd : d ≠ 0) (hn : n.natAbs < 2 ^ 3000) (hb : d.natAbs < 2 ^ 3000) (h : Q (qD (Rat.divInt n d)) S) : W (orc T (k + 2) n__law_frac [.int n, .int d] S) Q := by
  refine orc_w (ρ := [some (.int n), some (.int d), none]) rfl rfl rfl ?_
  show W (evSs _ b__law_frac _ _) _
  simp only [b__law_frac]
  have hg := gg_pos (n := n) hd
  have hgb := bd_mono (gg_bd (n := n) hd hb) (by decide : 3000 ≤ 8000)
  mul_fits
  refine w_ifd (fun c => ?_) fun c => ?_
  · have k1 : FDivOk (-n) (gg (-n) (-d)) := by rw [gg_neg]; exact fdiv_small (by omega) hgb _
    have k2 : FDivOk (-d) (gg (-n) (-d)) := by rw [gg_neg]; exact fdiv_small (by omega) hgb _
    mul_fits
    simp only [b__law_frac_1]
    mul_fits
    refine gcd_w (by rwa [Int.natAbs_neg]) (by rwa [Int.natAbs_neg]) ?_
    mul_fits
    rw [qD_neg c, ← gg_neg] at h
    exact h
  · have k1 : FDivOk n (gg n d) := fdiv_small (by omega) hgb n
    have k2 : FDivOk d (gg n d) := fdiv_small (by omega) hgb d
    mul_fits
    simp only [b__law_frac_1]
    mul_fits
    refine gcd_w hn hb ?_
    mul_fits
    rw [qD_pos (by omega)] at h
    exact h
end
/-! ### the four operations -/
section
variable {k : Nat} {S : Sto} {Q : D → Sto → Prop} {a b : Rat} {m n : Nat}
theorem den_ne (a : Rat) : ((a.den : Nat) : Int) ≠ 0 := by
  have := a.den_nz
  omega
theorem num_ne (h : a ≠ 0) : a.num ≠ 0 := fun z => h (Rat.num_eq_zero.mp z)
theorem sub_eq : Rat.divInt (a.num * (b.den : Int) - b.num * (a.den : Int)) ((a.den : Int) * (b.den : Int)) = a - b := by
  rw [← Rat.divInt_sub_divInt _ _ (den_ne a) (den_ne b), Rat.num_divInt_den, Rat.num_divInt_den]
theorem add_eq : Rat.divInt (a.num * (b.den : Int) + b.num * (a.den : Int)) ((a.den : Int) * (b.den : Int)) = a + b := by
  rw [← Rat.divInt_add_divInt _ _ (den_ne a) (den_ne b), Rat.num_divInt_den, Rat.num_divInt_den]
theorem mul_eq : Rat.divInt (a.num * b.num) ((a.den : Int) * (b.den : Int)) = a * b := by
  rw [← Rat.divInt_mul_divInt, Rat.num_divInt_den, Rat.num_divInt_den]
theorem div_eq : Rat.divInt (a.num * (b.den : Int)) ((a.den : Int) * b.num) = a / b := by
  rw [← Rat.divInt_mul_divInt, Rat.num_divInt_den, Rat.div_def, Rat.inv_def]
/-- the parts of a fraction in lowest terms are not greater than those it is made of -/
theorem divInt_bd {x y : Int} {n : Nat} (hy : y ≠ 0) (hx : x.natAbs < 2 ^ n) (hb : y.natAbs < 2 ^ n) : QB n (Rat.divInt x y) := by
  have hg : 0 < y.gcd x := Nat.gcd_pos_of_pos_left _ (by omega)
  refine ⟨?_, ?_⟩
  · rw [Rat.num_divInt]
    have h1 := Int.natAbs_ediv_le_natAbs (y.sign * x) ((y.gcd x : Nat) : Int)
    have h2 : (y.sign * x).natAbs = x.natAbs := by
      rw [Int.natAbs_mul, Int.natAbs_sign_of_ne_zero hy, Nat.one_mul]
    omega
  · rw [Rat.den_divInt, if_neg hy]
    have := Nat.div_le_self y.natAbs (y.gcd x)
    omega
theorem n2 {q : Rat} (h : QB m q) : ((q.den : Nat) : Int).natAbs < 2 ^ m := by
  rw [Int.natAbs_natCast]
  exact h.2
theorem QB.sub (ha : QB m a) (hb : QB n b) : QB (m + n + 1) (a - b) := by
  rw [← sub_eq]
  refine divInt_bd (Int.mul_ne_zero (den_ne a) (den_ne b)) ?_ (bd_mono (mul_bd (n2 ha) (n2 hb)) (by omega))
  exact sub_bd (mul_bd ha.1 (n2 hb)) (by rw [Nat.add_comm m n]; exact mul_bd hb.1 (n2 ha))
theorem QB.add (ha : QB m a) (hb : QB n b) : QB (m + n + 1) (a + b) := by
  rw [← add_eq]
  refine divInt_bd (Int.mul_ne_zero (den_ne a) (den_ne b)) ?_ (bd_mono (mul_bd (n2 ha) (n2 hb)) (by omega))
  exact add_bd (mul_bd ha.1 (n2 hb)) (by rw [Nat.add_comm m n]; exact mul_bd hb.1 (n2 ha))
theorem QB.mul (ha : QB m a) (hb : QB n b) : QB (m + n) (a * b) := by
  rw [← mul_eq]
  exact divInt_bd (Int.mul_ne_zero (den_ne a) (den_ne b)) (mul_bd ha.1 hb.1) (mul_bd (n2 ha) (n2 hb))
theorem QB.div (ha : QB m a) (hb : QB n b) (h0 : b ≠ 0) : QB (m + n) (a / b) := by
  rw [← div_eq]
  exact divInt_bd (Int.mul_ne_zero (den_ne a) (num_ne h0)) (mul_bd ha.1 (n2 hb)) (mul_bd (n2 ha) hb.1)
theorem ok_nd {m n : Nat} {x y : Int} (hx : x.natAbs < 2 ^ m) (hy : y.natAbs < 2 ^ n) (h : m + n + 1 ≤ 3000) : IntMulOk x y := mul_okb hx hy (by omega)
theorem plus_w (ha : QB m a) (hb : QB n b) (hm : m + n + 1 ≤ 3000) (h : Q (qD (a + b)) S) : W (orc T (k + 2) n_plus [qD a, qD b] S) Q := by
  refine orc_w (ρ := [some (qD a), some (qD b)]) rfl rfl rfl ?_
  show W (evSs _ b_plus _ _) _
  simp only [b_plus, qD]
  have m1 := ok_nd ha.1 (n2 hb) hm
  have m2 := ok_nd hb.1 (n2 ha) (by omega)
  have m3 := ok_nd (n2 ha) (n2 hb) hm
  mul_fits
  refine frac_w (Int.mul_ne_zero (den_ne a) (den_ne b)) (bd_mono (mul_bd (n2 ha) (n2 hb)) (by omega)) ?_
  mul_fits
  rw [add_eq]
  exact h
theorem times_w (ha : QB m a) (hb : QB n b) (hm : m + n + 1 ≤ 3000) (h : Q (qD (a * b)) S) : W (orc T (k + 2) n_times [qD a, qD b] S) Q := by
  refine orc_w (ρ := [some (qD a), some (qD b)]) rfl rfl rfl ?_
  show W (evSs _ b_times _ _) _
  simp only [b_times, qD]
  have m1 := ok_nd ha.1 hb.1 hm
  have m3 := ok_nd (n2 ha) (n2 hb) hm
  mul_fits
  refine frac_w (Int.mul_ne_zero (den_ne a) (den_ne b)) (bd_mono (mul_bd (n2 ha) (n2 hb)) (by omega)) ?_
  mul_fits
  rw [mul_eq]
  exact h
/-- two fractions, compared -/
theorem qP_ok (f : Nat → Option PyData) (q : Rat) : toPW f (qD q) = some (.tuple [.int q.num, .int (q.den : Int)]) := by
  simp [qD, toPW, toPsW]
theorem eq_q {S : Sto} : dEq S (qD a) (qD b) = some (decide (a = b)) := by
  have e : ∀ q : Rat, toP S (qD q) = some (.tuple [.int q.num, .int (q.den : Int)]) := fun q => qP_ok _ q
  have sc : scalD (qD a) (qD b) = false := rfl
  unfold dEq
  rw [sc, e, e]
  have s : ∀ q : Rat, SeqAt.shaped (.tuple [.int q.num, .int (q.den : Int)]) = true := fun q => by
    simp [SeqAt.shaped, PyData.canLay0, PyData.canLayAll0, PyData.depth, PyData.depthAll]
  simp only [s, Bool.and_self, if_true, Bool.false_eq_true, if_false]
  congr 1
  simp only [PyData.eqv, PyData.eqvAll, Bool.and_true]
  rw [Bool.eq_iff_iff]
  simp only [Bool.and_eq_true, beq_iff_eq, decide_eq_true_eq]
  exact ⟨fun ⟨h1, h2⟩ => Rat.ext h1 (by omega), fun h => by subst h; exact ⟨rfl, rfl⟩⟩
theorem w_eqq {S : Sto} {Q : D → Sto → Prop} (h : Q (.bl (decide (a = b))) S) : W (cmpD .eq (qD a) (qD b) S) Q := by
  simp only [cmpD, eq_q]
  exact w_ok h
theorem w_neq {S : Sto} {Q : D → Sto → Prop} (h : Q (.bl (!decide (a = b))) S) : W (cmpD .ne (qD a) (qD b) S) Q := by
  simp only [cmpD, eq_q]
  exact w_ok h
theorem q0 : D.tup [.int 0, .int 1] = qD 0 := rfl
theorem q1 : D.tup [.int 1, .int 1] = qD 1 := rfl
theorem is_int_w {i : Int} (h : Q (.bl true) S) : W (orc T (k + 1) n__law_is_int [.int i] S) Q := by
  refine orc_w (ρ := [some (.int i)]) rfl rfl rfl ?_
  show W (evSs _ b__law_is_int _ _) _
  simp only [b__law_is_int]
  mul_fits
  exact h
theorem is_frac_w (ha : QB m a) (hm : m ≤ 3000) (h : Q (.bl true) S) : W (orc T (k + 2) n__law_is_frac [qD a] S) Q := by
  refine orc_w (ρ := [some (qD a)]) rfl rfl rfl ?_
  show W (evSs _ b__law_is_frac _ _) _
  simp only [b__law_is_frac, qD]
  mul_fits
  simp only [b__law_is_frac_1]
  mul_fits
  refine is_int_w ?_
  mul_fits
  refine is_int_w ?_
  mul_fits
  simp only [b__law_is_frac_2]
  mul_fits
  have dp : (1 : Int) ≤ (a.den : Int) := by
    have := a.den_pos
    omega
  refine w_if_T (decide_eq_true dp) ?_
  mul_fits
  refine gcd_w (bd_mono ha.1 hm) (bd_mono (n2 ha) hm) ?_
  mul_fits
  have e : gg a.num (a.den : Int) = 1 := by
    unfold gg
    have := a.reduced
    unfold Nat.Coprime at this
    rw [Int.natAbs_natCast, this]
    rfl
  rw [show decide (gg a.num (a.den : Int) = 1) = true from decide_eq_true e]
  exact h
end
/-! ### ties, letters -/
structure Pt where
  one : Nat
  other : Nat
  strand : Str
abbrev Pt.d (s : Pt) : D := .tup [.int (s.one : Nat), .int (s.other : Nat), .str s.strand]
def Pt.p (s : Pt) : PyData := .tuple [.int (s.one : Nat), .int (s.other : Nat), .str s.strand]
theorem sort_congr2 {β : Type} {k : β → PyData} (inj : ∀ a b, PySem.W.keyToks (k a) = PySem.W.keyToks (k b) → a = b) {l m : List β} (h : l.Perm m) : l.mergeSort (PySem.W.dataLe false k) = m.mergeSort (PySem.W.dataLe false k) := by
  have tl : PySem.W.TotalLe (PySem.W.dataLe false k) := PySem.W.sortLe_total _ false _
  refine List.Perm.eq_of_pairwise (le := fun a b => PySem.W.dataLe false k a b = true) (fun a b _ _ h1 h2 => inj _ _ ?_) (PySem.W.sort_pairwise tl l) (PySem.W.sort_pairwise tl m) ((List.mergeSort_perm l _).trans (h.trans (List.mergeSort_perm m _).symm))
  rw [PySem.W.dataLe_eq] at h1 h2
  have h1 : (!PySem.W.dataLt (k b) (k a)) = true := h1
  have h2 : (!PySem.W.dataLt (k a) (k b)) = true := h2
  have q1 : PySem.W.dataLt (k b) (k a) = false := by simpa using h1
  have q2 : PySem.W.dataLt (k a) (k b) = false := by simpa using h2
  exact (PyProof.Rows.listOrd PyProof.Rows.itemOrd).total _ _ q2 q1
theorem pt_inj (a b : Pt) (h : PySem.W.keyToks a.p = PySem.W.keyToks b.p) : a = b := by
  simp [Pt.p, PySem.W.keyToks, PySem.W.keyToksAll] at h
  obtain ⟨h1, h2, h3⟩ := h
  cases a
  cases b
  simp at h1 h2 h3 ⊢
  exact ⟨by omega, by omega, PySem.W.str_of_cps (by rw [h3])⟩
def srt (l : List Pt) : List Pt := l.mergeSort (PySem.W.dataLe false Pt.p)
theorem srt_perm (l : List Pt) : (srt l).Perm l := List.mergeSort_perm _ _
theorem srt_congr {l m : List Pt} (h : l.Perm m) : srt l = srt m := sort_congr2 pt_inj h

def stS (cs : List Nat) : Str := ⟨cs.toArray⟩
def singD (c : Nat) : D := .str ⟨#[c]⟩
theorem letters_st (cs : List Nat) : lettersD (stS cs) = cs.map singD := rfl
theorem st_length (cs : List Nat) : (stS cs).length = cs.length := by
  show cs.toArray.size = _
  simp
theorem st_append (a b : List Nat) : stS a ++ stS b = stS (a ++ b) := by
  show (⟨a.toArray ++ b.toArray⟩ : Str) = ⟨(a ++ b).toArray⟩
  simp

theorem strs_sing (l : List Nat) : strsOf (l.map singD) = some (l.map fun c => (⟨#[c]⟩ : Str)) := by
  induction l with
  | nil => rfl
  | cons x xs ih =>
    rw [List.map_cons, List.map_cons]
    show (strsOf _).map _ = _
    rw [ih]
    rfl
theorem glued_sing (cs : List Nat) : Txt.join "" (cs.map fun c => (⟨#[c]⟩ : Str)) = stS cs := by
  have key : ∀ cs : List Nat, Str.join "" (cs.map fun c => (⟨#[c]⟩ : Str)) = stS cs := by
    intro cs
    induction cs with
    | nil => rfl
    | cons x cs ih =>
      cases cs with
      | nil => rfl
      | cons y cs =>
        show (⟨#[x]⟩ : Str) ++ "" ++ Str.join "" ((y :: cs).map fun c => (⟨#[c]⟩ : Str)) = _
        rw [ih]
        show (⟨#[x] ++ #[] ++ (y :: cs).toArray⟩ : Str) = ⟨(x :: y :: cs).toArray⟩
        simp
  rw [← key]
  exact PySem.StrLaws.glued_eq_join _ _
theorem sum_ones (l : List Nat) : ((l.map fun c => (⟨#[c]⟩ : Str)).map (·.length)).sum = l.length := by
  induction l with
  | nil => rfl
  | cons x l ih =>
    rw [List.map_cons, List.map_cons, List.sum_cons, ih, List.length_cons]
    show 1 + _ = _
    omega
theorem toPs_pts (f : Nat → Option PyData) (l : List Pt) : toPsW f (l.map Pt.d) = some (l.map Pt.p) := by
  induction l with
  | nil => rfl
  | cons x l ih => simp [toPsW, toPW, ih, Pt.p]
theorem sort_pts {S : Sto} {l : List Pt} {Q : List D → Sto → Prop} (h : Q ((srt l).map Pt.d) S) : W (sortD S (l.map Pt.d)) Q := by
  have e : toPs S (l.map Pt.d) = some (l.map Pt.p) := toPs_pts _ _
  unfold sortD
  rw [e]
  have es : (l.map Pt.d).mergeSort (PySem.W.dataLe false fun d => (toP S d).getD .none) = (srt l).map Pt.d := by
    refine (PySem.W.sort_maps Pt.d fun a _ b _ => ?_).symm
    have ep : ∀ p : Pt, (toP S p.d).getD .none = p.p := fun p => by
      have : toP S p.d = some p.p := by simp [toP, toPW, toPsW, Pt.p]
      rw [this]
      rfl
    rw [PySem.W.dataLe_eq, PySem.W.dataLe_eq]
    simp only [ep]
  rw [es]
  refine w_ask ⟨fun a ha b hb => ?_, .inl fun a ha => ?_, fun a ha => ?_⟩ (w_ok h)
  · obtain ⟨x, _, rfl⟩ := List.mem_map.mp ha
    obtain ⟨y, _, rfl⟩ := List.mem_map.mp hb
    simp [PySem.W.alike, PySem.W.alikeAll, Pt.p]
  · obtain ⟨x, _, rfl⟩ := List.mem_map.mp ha
    exact ⟨_, _, rfl⟩
  · obtain ⟨x, _, rfl⟩ := List.mem_map.mp ha
    simp [PyData.depth, PyData.depthAll, Pt.p]
theorem below_pts (l : List Pt) {n : Nat} : below n (.tup (l.map Pt.d)) := by
  show belows n _
  refine belows_iff.mpr fun x hx => ?_
  obtain ⟨p, _, rfl⟩ := List.mem_map.mp hx
  simp [below, belows]

theorem rgD_0 (j : Nat) : rgD 0 (j : Int) = (List.range' 0 j).map natD := by
  rw [rgD0, ← List.range_eq_range']
theorem rg'_cons {c m : Nat} : List.range' c (m + 1) = c :: List.range' (c + 1) m := rfl

/-! ### draws -/
def Lt (x : D) : Prop := ∃ c : Nat, c < 1114112 ∧ x = singD c
section
variable {k : Nat} {R : Sto} {Q : D → Sto → Prop} {d : DS} {m : Int}
theorem draw_ (h1 : 0 < m) (h2 : m < 1073741824) (h : ∀ (y : Int) (d' : DS), 0 ≤ y → y < m → Q (.int y) (d'.st R)) : W (orc T (k + 1) n__law_draw [.ref 1, .int m] (d.st R)) Q := draw_w rfl h1 h2 h
theorem rare_w (h1 : 0 < m) (h2 : m < 1000) (h : ∀ (c : Bool) (d' : DS), Q (.bl c) (d'.st R)) : W (orc T (k + 2) n__law_rare [.ref 1, .int m] (d.st R)) Q := by
  refine orc_w (ρ := [some (.ref 1), some (.int m)]) rfl rfl rfl ?_
  show W (evSs _ b__law_rare _ _) _
  simp only [b__law_rare]
  mul_fits
  refine draw_ h1 (by omega) fun y d1 y0 y1 => ?_
  mul_fits
  rw [gc_same (by rfl)]
  exact w_ok (h _ _)
theorem pick_w {b : Nat} {row : List D} (h0 : 0 < row.length) (hl : row.length < 1000) (hb : R[b]? = some (.lst row)) (h : ∀ x ∈ row, ∀ d' : DS, Q x (d'.st R)) : W (orc T (k + 2) n__law_pick [.ref 1, .ref (b + 2)] (d.st R)) Q := by
  refine orc_w (ρ := [some (.ref 1), some (.ref (b + 2))]) rfl rfl rfl ?_
  show W (evSs _ b__law_pick _ _) _
  simp only [b__law_pick]
  have hq : ∀ d : DS, (d.st R)[b + 2]? = some (.lst row) := fun d => hb
  have g1 : sqOf (d.st R) (.val (.ref (b + 2))) = some row := by simp only [sqOf, lsOf, hq]
  mul_fits
  refine draw_ (by omega) (by omega) fun y d1 y0 y1 => ?_
  have hy : y.toNat < row.length := by omega
  have k1 : atI row y = some (row[y.toNat]) := by
    unfold atI ixN
    rw [if_pos y0, if_pos y1]
    simp [hy]
  refine v_idx (hq d1) k1 ?_
  mul_fits
  rw [gc_same (by rfl)]
  mul_fits
  exact h _ (List.getElem_mem hy) _
theorem st_mid {o : Ob} {g : Sto} : (d.st (R ++ [o] ++ g))[R.length + 2]? = some o := by rw [st_get]; exact get_mid R g o
theorem st_set_mid {o p : Ob} {g : Sto} : (d.st (R ++ [o] ++ g)).set (R.length + 2) p = d.st (R ++ [p] ++ g) := by
  show DS.st d _ = _
  unfold DS.st
  have := set_mid R g o p
  simp only [List.set_cons_succ, this]
theorem st_set (d : DS) {R : Sto} {i : Nat} {p : Ob} : (d.st R).set (i + 2) p = d.st (R.set i p) := by
  unfold DS.st
  simp only [List.set_cons_succ]
theorem erase_perm : ∀ (l : List D) (i : Nat) (h : i < l.length), (l[i] :: l.eraseIdx i).Perm l
  | a :: l, 0, _ => .refl _
  | a :: l, i + 1, h => by
    have h' : i < l.length := by simpa using h
    exact (List.Perm.swap a l[i] _).trans ((erase_perm l i h').cons a)
theorem shuffled_w {b : Nat} {row : List D} (hl : row.length < 1000) (hb : R[b]? = some (.lst row)) (h : ∀ (got : List D) (g : Sto) (d' : DS), got.Perm row → Q (.ref (R.length + g.length + 2)) (d'.st (R ++ (g ++ [.lst got])))) : W (orc T (k + 2) n__law_shuffled [.ref 1, .ref (b + 2)] (d.st R)) Q := by
  refine orc_w (ρ := [some (.ref 1), some (.ref (b + 2)), none, none, none]) rfl rfl rfl ?_
  show W (evSs _ b__law_shuffled _ _) _
  simp only [b__law_shuffled]
  have hq : (d.st R)[b + 2]? = some (.lst row) := hb
  have g1 : lstOf (d.st R) (.val (.ref (b + 2))) = some row := by simp only [lstOf, sqOf, lsOf, hq]
  mul_fits
  try (refine w_may g1 ?_)
  mul_fits
  simp only [st_len, st_app]
  have hr1 : (d.st (R ++ [.lst row] ++ [.lst []]))[R.length + 2]? = some (.lst row) := st_mid
  have g2 : sqOf (d.st (R ++ [.lst row] ++ [.lst []])) (.val (.ref (R.length + 2))) = some row := by simp only [sqOf, lsOf, hr1]
  mul_fits
  rw [rgD0]
  refine loopS_w (fun ds ρ S' => ∃ (ks : List Nat) (left got : List D) (o4 : Option D) (d' : DS), ds = ks.map natD ∧ S' = d'.st (R ++ [.lst left] ++ [.lst got]) ∧ ρ = [some (.ref 1), some (.ref (b + 2)), some (.ref (R.length + 2)), some (.ref ((R ++ [Ob.lst row]).length + 2)), o4] ∧ left.length = ks.length ∧ (got ++ left).Perm row) ?_ ?_ _ _ _ ⟨List.range row.length, row, [], _, d, rfl, rfl, rfl, by simp, .refl _⟩
  · rintro e ds ρ S' ⟨ks, left, got, o4, d', hds, rfl, rfl, h1, h2⟩
    refine ⟨trivial, ?_⟩
    cases ks with
    | nil => exact absurd hds (by simp)
    | cons q ks =>
    rw [List.map_cons, List.cons.injEq] at hds
    obtain ⟨rfl, rfl⟩ := hds
    rw [List.length_cons] at h1
    have hgl : got.length + left.length = row.length := by rw [← List.length_append]; exact h2.length_eq
    simp only [b__law_shuffled_1]
    have k1 : ∀ d : DS, (d.st (R ++ [.lst left] ++ [.lst got]))[R.length + 2]? = some (.lst left) := fun d => st_mid
    have k2 : ∀ (d : DS) l, (d.st (R ++ [.lst l] ++ [.lst got]))[(R ++ [Ob.lst row]).length + 2]? = some (.lst got) := fun d l => by rw [st_get]; simp
    have g3 : sqOf (d'.st (R ++ [.lst left] ++ [.lst got])) (.val (.ref (R.length + 2))) = some left := by simp only [sqOf, lsOf, k1]
    mul_fits
    refine w_withL (k2 _ _) ?_
    mul_fits
    refine w_withL (k1 _) ?_
    mul_fits
    refine draw_ (m := (left.length : Int)) (by omega) (by omega) fun y d1 y0 y1 => ?_
    have hy : y.toNat < left.length := by omega
    have yb : -(2 ^ 63) ≤ y ∧ y < 2 ^ 63 := by constructor <;> omega
    refine v_popAt (k := y.toNat) (d := left[y.toNat]) (k1 d1) yb ?_ (by simp [hy]) ?_
    · have e0 : ¬ y < 0 := by omega
      show (if 0 ≤ (if y < 0 then y + (left.length : Int) else y) && decide ((if y < 0 then y + (left.length : Int) else y) < (left.length : Int)) then some (if y < 0 then y + (left.length : Int) else y).toNat else none) = some y.toNat
      rw [if_neg e0]
      simp [y0, y1]
    rw [st_set_mid]
    refine v_app (k2 _ _) (le_size (by omega)) ?_
    have se : (d1.st (R ++ [.lst (left.eraseIdx y.toNat)] ++ [.lst got])).set ((R ++ [Ob.lst row]).length + 2) (.lst (got ++ [left[y.toNat]])) = d1.st (R ++ [.lst (left.eraseIdx y.toNat)] ++ [.lst (got ++ [left[y.toNat]])]) := by
      rw [st_set]
      have := set_end (R ++ [Ob.lst (left.eraseIdx y.toNat)]) (.lst got) (.lst (got ++ [left[y.toNat]]))
      have e2 : (R ++ [Ob.lst row]).length = (R ++ [Ob.lst (left.eraseIdx y.toNat)]).length := by simp
      rw [e2, this]
    rw [se]
    mul_fits
    refine ⟨_, .inl rfl, ks, left.eraseIdx y.toNat, got ++ [left[y.toNat]], _, d1, rfl, rfl, rfl, ?_, ?_⟩
    · rw [List.length_eraseIdx, if_pos hy]
      omega
    · rw [List.append_assoc]
      refine List.Perm.trans ?_ h2
      refine List.Perm.append_left _ ?_
      exact erase_perm _ _ hy
  · rintro ρ S' ⟨ks, left, got, o4, d', hds, rfl, rfl, h1, h2⟩
    refine ⟨trivial, ?_⟩
    cases ks with
    | cons q ks => exact absurd hds (by simp)
    | nil =>
    have hl0 : left = [] := List.eq_nil_of_length_eq_zero h1
    subst hl0
    rw [List.append_nil] at h2
    mul_fits
    simp only [b__law_shuffled_2]
    mul_fits
    rw [gc_out (by simp [below, st_len])]
    have := h got [.lst []] d' h2
    rw [List.append_assoc, show (R ++ [Ob.lst row]).length + 2 = R.length + [Ob.lst ([] : List D)].length + 2 by simp]
    exact w_ok this
theorem cut_take {l : List D} {m : Nat} : PQ.cutD l none (some (m : Int)) = l.take m := by
  unfold PQ.cutD
  simp only [HT.sIx]
  rw [if_neg (by omega), List.drop_zero, Int.toNat_natCast, Nat.sub_zero]
  by_cases h : m ≤ l.length
  · rw [Nat.min_eq_left h]
  · rw [Nat.min_eq_right (by omega), List.take_length, List.take_of_length_le (by omega)]
theorem some_w {b m : Nat} {row : List D} (hl : row.length < 1000) (hb : R[b]? = some (.lst row)) (h : ∀ (full : List D) (g : Sto) (d' : DS), full.Perm row → Q (.ref (R.length + g.length + 2)) (d'.st (R ++ (g ++ [.lst (full.take m)])))) : W (orc T (k + 3) n__law_some [.ref 1, .ref (b + 2), .int (m : Int)] (d.st R)) Q := by
  refine orc_w (ρ := [some (.ref 1), some (.ref (b + 2)), some (.int (m : Int))]) rfl rfl rfl ?_
  show W (evSs _ b__law_some _ _) _
  simp only [b__law_some]
  mul_fits
  refine shuffled_w hl hb fun got g d' h1 => ?_
  have k1 : (d'.st (R ++ (g ++ [.lst got])))[R.length + g.length + 2]? = some (.lst got) := by
    rw [st_get, ← List.append_assoc, show R.length + g.length = (R ++ g).length by simp]
    exact get_end _ _
  mul_fits
  rw [cut_take, st_len, st_app, gc_out (by simp [below, st_len])]
  have := h got (g ++ [.lst got]) d' h1
  refine w_ok ?_
  have e1 : R ++ (g ++ [Ob.lst got]) ++ [Ob.lst (got.take m)] = R ++ (g ++ [Ob.lst got] ++ [Ob.lst (got.take m)]) := by simp
  have e2 : (R ++ (g ++ [Ob.lst got])).length + 2 = R.length + (g ++ [Ob.lst got]).length + 2 := by simp
  rw [e1, e2]
  exact this

theorem pickT_w {row : List D} (h0 : 0 < row.length) (hl : row.length < 1000) (hp : ∀ x ∈ row, below 0 x) (h : ∀ x ∈ row, ∀ d' : DS, Q x (d'.st R)) : W (orc T (k + 2) n__law_pick [.ref 1, .tup row] (d.st R)) Q := by
  refine orc_w (ρ := [some (.ref 1), some (.tup row)]) rfl rfl rfl ?_
  show W (evSs _ b__law_pick _ _) _
  simp only [b__law_pick]
  mul_fits
  refine draw_ (by omega) (by omega) fun y d1 y0 y1 => ?_
  have hy : y.toNat < row.length := by omega
  have k1 : atI row y = some (row[y.toNat]) := by
    unfold atI ixN
    rw [if_pos y0, if_pos y1]
    simp [hy]
  refine v_idxT k1 ?_
  mul_fits
  rw [gc_same (by rfl)]
  mul_fits
  exact h _ (List.getElem_mem hy) _

theorem gc_st2 {d d' : DS} {R g : Sto} {e : D} {Q : D → Sto → Prop} (hb : below (R.length + 2) e) (h : Q e (d'.st R)) : W (gc (d.st R) e (d'.st (R ++ g))) Q := by
  unfold gc
  have sf : Safe (d.st R) e (d'.st (R ++ g)) := by
    refine ⟨hb, by simp [st_len], fun i o hi e2 => ?_⟩
    match i, hi, e2 with
    | 0, _, e2 =>
      right
      have : Ob.lst (d'.cells.map .int) = o := by simpa [DS.st] using e2
      subst this
      refine belows_iff.mpr fun x hx => ?_
      obtain ⟨q, _, rfl⟩ := List.mem_map.mp hx
      trivial
    | 1, _, e2 =>
      right
      have : Ob.lst [.ref 0, .int d'.p, .int d'.r, .int d'.s] = o := by simpa [DS.st] using e2
      subst this
      refine belows_iff.mpr fun x hx => ?_
      simp at hx
      rcases hx with rfl | rfl | rfl | rfl
      · show 0 < _
        simp [st_len]
      · trivial
      · trivial
      · trivial
    | i + 2, hi, e2 =>
      left
      rw [st_get] at e2 ⊢
      rw [st_len] at hi
      rwa [List.getElem?_append_left (by omega)] at e2
  rw [if_pos sf, W_ok]
  have : (d'.st (R ++ g)).take (d.st R).length = d'.st R := by
    show List.take (R.length + 2) (_ :: _ :: (R ++ g)) = _
    rw [List.take_succ_cons, List.take_succ_cons, List.take_left' rfl]
    rfl
  rw [this]
  exact h

end
/-! ### letters, names, ties, marks -/
section
variable {k : Nat} {R : Sto} {Q : D → Sto → Prop} {d : DS} {m : Int}
theorem toPs_ints (f : Nat → Option PyData) (l : List Int) : toPsW f (l.map D.int) = some (l.map .int) := by
  induction l with
  | nil => rfl
  | cons x l ih => simp [toPsW, toPW, ih]
theorem sort_ints {S : Sto} {l : List Int} {Q : List D → Sto → Prop} (h : ∀ l' : List D, l'.Perm (l.map D.int) → Q l' S) : W (sortD S (l.map D.int)) Q := by
  have e : toPs S (l.map D.int) = some (l.map .int) := toPs_ints _ _
  unfold sortD
  rw [e]
  refine w_ask ⟨fun a ha b hb => ?_, .inr fun a ha => ?_, fun a ha => ?_⟩ (w_ok (h _ (List.mergeSort_perm _ _)))
  · obtain ⟨x, _, rfl⟩ := List.mem_map.mp ha
    obtain ⟨y, _, rfl⟩ := List.mem_map.mp hb
    simp [PySem.W.alike]
  · obtain ⟨x, _, rfl⟩ := List.mem_map.mp ha
    exact ⟨by simp, by simp⟩
  · obtain ⟨x, _, rfl⟩ := List.mem_map.mp ha
    simp [PyData.depth]
theorem get_g {g : Sto} {o : Ob} : (d.st (R ++ (g ++ [o])))[R.length + g.length + 2]? = some o := by
  rw [st_get, ← List.append_assoc, show R.length + g.length = (R ++ g).length by simp]
  exact get_end _ _
theorem ties_w {b n t : Nat} {row : List D} (hn : n ≤ 900) (ht : t ≤ 60) (h0 : 0 < row.length) (hl : row.length < 1000) (hb : R[b]? = some (.lst row)) (hlt : ∀ x ∈ row, Lt x) (h : ∀ (pt : List Pt) (d' : DS), (∀ p ∈ pt, p.one < n ∧ p.other < n) → Q (.tup (pt.map Pt.d)) (d'.st R)) : W (orc T (k + 4) n__law_ties [.ref 1, .int (n : Int), .int (t : Int), .ref (b + 2)] (d.st R)) Q := by
  refine orc_w (ρ := [some (.ref 1), some (.int (n : Int)), some (.int (t : Int)), some (.ref (b + 2)), none, none, none]) rfl rfl rfl ?_
  show W (evSs _ b__law_ties _ _) _
  simp only [b__law_ties]
  mul_fits
  simp only [st_len, st_app]
  have fin : ∀ (d' : DS) (pt : List Pt) (g : Sto) (o5 o6 : Option D), (∀ p ∈ pt, p.one < n ∧ p.other < n) → pt.length ≤ t → W (evSs (orc T (k + 3)) b__law_ties_2 [some (.ref 1), some (.int (n : Int)), some (.int (t : Int)), some (.ref (b + 2)), some (.ref (R.length + 2)), o5, o6] (d'.st (R ++ [.lst (pt.map Pt.d)] ++ g))) fun fl S1 => W (retK fl S1) fun x S' => W (gc (d.st R) x S') Q := by
    intro d' pt g o5 o6 hp hpl
    simp only [b__law_ties_2]
    have k1 : (d'.st (R ++ [.lst (pt.map Pt.d)] ++ g))[R.length + 2]? = some (.lst (pt.map Pt.d)) := st_mid
    have ls : lsOf (d'.st (R ++ [.lst (pt.map Pt.d)] ++ g)) (.val (.ref (R.length + 2))) = some (pt.map Pt.d) := by simp only [lsOf, k1]
    mul_fits
    try (refine w_may ls ?_)
    refine sort_pts ?_
    mul_fits
    rw [List.append_assoc]
    refine gc_st2 (below_pts _) ?_
    exact h _ d' (fun p hp' => hp p ((srt_perm _).mem_iff.mp hp'))
  mul_fits
  refine w_ifd (fun c => ?_) fun c => ?_
  · have hn2 : 2 ≤ n := by omega
    mul_fits
    rw [rgD0]
    refine loopS_w (fun ds ρ S' => ∃ (ks : List Nat) (pt : List Pt) (g : Sto) (o5 o6 : Option D) (d' : DS), ds = ks.map natD ∧ S' = d'.st (R ++ [.lst (pt.map Pt.d)] ++ g) ∧ ρ = [some (.ref 1), some (.int (n : Int)), some (.int (t : Int)), some (.ref (b + 2)), some (.ref (R.length + 2)), o5, o6] ∧ pt.length + ks.length = t ∧ (∀ p ∈ pt, p.one < n ∧ p.other < n)) ?_ ?_ _ _ _ ⟨List.range t, [], [], _, _, d, rfl, by simp, rfl, by simp, by simp⟩
    · rintro e ds ρ S' ⟨ks, pt, g, o5, o6, d', hds, rfl, rfl, h1, h2⟩
      refine ⟨trivial, ?_⟩
      cases ks with
      | nil => exact absurd hds (by simp)
      | cons q ks =>
      rw [List.map_cons, List.cons.injEq] at hds
      obtain ⟨rfl, rfl⟩ := hds
      rw [List.length_cons] at h1
      simp only [b__law_ties_1]
      have rgok : RgOk 0 (n : Int) := by unfold RgOk; omega
      mul_fits
      simp only [st_len, st_app]
      have hs : (rgD 0 (n : Int)).length = n := by rw [rgD0]; simp
      refine some_w (b := (R ++ [Ob.lst (pt.map Pt.d)] ++ g).length) (m := 2) (row := rgD 0 (n : Int)) (by rw [hs]; omega) (get_end _ _) fun full g2 d2 hp2 => ?_
      have a1 : ∀ x ∈ full.take 2, x ∈ rgD 0 (n : Int) := fun x hx => hp2.mem_iff.mp (List.mem_of_mem_take hx)
      have a3 : (full.take 2).length = 2 := by
        have := hp2.length_eq
        rw [List.length_take]
        omega
      generalize full.take 2 = got at a1 a3 ⊢
      obtain ⟨x, y, rfl⟩ : ∃ x y, got = [x, y] := by
        match got, a3 with
        | [x, y], _ => exact ⟨x, y, rfl⟩
      have hnat : ∀ z ∈ [x, y], ∃ q : Nat, z = natD q ∧ q < n := fun z hz => by
        have := a1 z hz
        rw [rgD0] at this
        obtain ⟨q, hq, rfl⟩ := List.mem_map.mp this
        exact ⟨q, rfl, List.mem_range.mp hq⟩
      obtain ⟨x, rfl, hx⟩ := hnat x (by simp)
      obtain ⟨y, rfl, hy⟩ := hnat y (by simp)
      have gg := get_g (R := R ++ [Ob.lst (pt.map Pt.d)] ++ g ++ [Ob.lst (rgD 0 (n : Int))]) (d := d2) (g := g2) (o := .lst [natD x, natD y])
      have ls := show lsOf (d2.st (R ++ [Ob.lst (pt.map Pt.d)] ++ g ++ [Ob.lst (rgD 0 (n : Int))] ++ (g2 ++ [Ob.lst [natD x, natD y]]))) (.val (.ref ((R ++ [Ob.lst (pt.map Pt.d)] ++ g ++ [Ob.lst (rgD 0 (n : Int))]).length + g2.length + 2))) = some [natD x, natD y] by simp only [lsOf, gg]
      mul_fits
      try (refine w_may ls ?_)
      refine sort_ints (l := [(x : Int), (y : Int)]) fun l' hp => ?_
      have hl' : l'.length = 2 := hp.length_eq
      obtain ⟨u, v, rfl⟩ : ∃ u v, l' = [u, v] := by
        match l', hl' with
        | [x, y], _ => exact ⟨x, y, rfl⟩
      have hnat2 : ∀ z ∈ [u, v], ∃ q : Nat, z = natD q ∧ q < n := fun z hz => by
        have := hp.mem_iff.mp hz
        simp at this
        rcases this with rfl | rfl
        · exact ⟨x, rfl, hx⟩
        · exact ⟨y, rfl, hy⟩
      obtain ⟨u, rfl, hu⟩ := hnat2 u (by simp)
      obtain ⟨v, rfl, hv⟩ := hnat2 v (by simp)
      mul_fits
      simp only [st_len, st_app]
      have ea : R ++ [Ob.lst (pt.map Pt.d)] ++ g ++ [Ob.lst (rgD 0 (n : Int))] ++ (g2 ++ [Ob.lst [natD x, natD y]]) ++ [Ob.lst [natD u, natD v]] = R ++ [Ob.lst (pt.map Pt.d)] ++ (g ++ [Ob.lst (rgD 0 (n : Int))] ++ (g2 ++ [Ob.lst [natD x, natD y]]) ++ [Ob.lst [natD u, natD v]]) := by simp
      have ge := get_end (R ++ [Ob.lst (pt.map Pt.d)] ++ g ++ [Ob.lst (rgD 0 (n : Int))] ++ (g2 ++ [Ob.lst [natD x, natD y]])) (Ob.lst [natD u, natD v])
      rw [ea] at ge ⊢
      generalize (R ++ [Ob.lst (pt.map Pt.d)] ++ g ++ [Ob.lst (rgD 0 (n : Int))] ++ (g2 ++ [Ob.lst [natD x, natD y]])).length = at_ at ge ⊢
      generalize (g ++ [Ob.lst (rgD 0 (n : Int))] ++ (g2 ++ [Ob.lst [natD x, natD y]]) ++ [Ob.lst [natD u, natD v]]) = G at ge ⊢
      have k1 : ∀ (d : DS) l, (d.st (R ++ [.lst l] ++ G))[R.length + 2]? = some (.lst l) := fun d l => st_mid
      have k2 : ∀ (d : DS), (d.st (R ++ [.lst (pt.map Pt.d)] ++ G))[at_ + 2]? = some (.lst [natD u, natD v]) := fun d => by rw [st_get]; exact ge
      mul_fits
      refine w_withL (k1 _ _) ?_
      mul_fits
      refine pick_w h0 hl (get_pre (get_pre hb)) fun z hz d3 => ?_
      obtain ⟨c, _, rfl⟩ := hlt z hz
      mul_fits
      refine v_app (k1 _ _) (by rw [List.length_map]; exact le_size (by omega)) ?_
      rw [st_set_mid]
      mul_fits
      refine ⟨_, .inl rfl, ks, pt ++ [⟨u, v, ⟨#[c]⟩⟩], G, _, _, d3, rfl, by rw [List.map_append]; rfl, rfl, by simp; omega, fun p hp => ?_⟩
      rcases List.mem_append.mp hp with hp | hp
      · exact h2 p hp
      · simp at hp
        subst hp
        exact ⟨hu, hv⟩
    · rintro ρ S' ⟨ks, pt, g, o5, o6, d', hds, rfl, rfl, h1, h2⟩
      refine ⟨trivial, ?_⟩
      cases ks with
      | cons q ks => exact absurd hds (by simp)
      | nil =>
      mul_fits
      exact fin d' pt g _ _ h2 (by simp at h1; omega)
  · mul_fits
    have := fin d [] [] none none (by simp) (by simp)
    simpa using this
theorem marks_w {b n : Nat} {row : List D} (hn : n ≤ 900) (h0 : 0 < row.length) (hl : row.length < 1000) (hb : R[b]? = some (.lst row)) (hlt : ∀ x ∈ row, Lt x) (h : ∀ (ms : List Nat) (d' : DS), ms.length = n → (∀ c ∈ ms, c < 1114112) → Q (.str (stS ms)) (d'.st R)) : W (orc T (k + 3) n__law_marks [.ref 1, .int (n : Int), .ref (b + 2)] (d.st R)) Q := by
  refine orc_w (ρ := [some (.ref 1), some (.int (n : Int)), some (.ref (b + 2)), none]) rfl rfl rfl ?_
  show W (evSs _ b__law_marks _ _) _
  simp only [b__law_marks]
  mul_fits
  refine ⟨by show (rgD 0 _).length ≤ sizeLine; rw [rgD0]; simp; exact le_size (by omega), ?_⟩
  refine loopQ_w (fun ds r S' => ∃ (l : List Nat) (d' : DS), r = l.map singD ∧ S' = d'.st R ∧ l.length + ds.length = n ∧ ∀ c ∈ l, c < 1114112) ?_ ?_ _ _ ⟨[], d, rfl, rfl, by rw [rgD0]; simp, by simp⟩
  · rintro e ds r S' ⟨l, d', rfl, rfl, h1, h2⟩
    refine ⟨trivial, ?_⟩
    mul_fits
    refine pick_w h0 hl hb fun x hx d2 => ?_
    obtain ⟨c, hc, rfl⟩ := hlt x hx
    mul_fits
    refine ⟨l ++ [c], d2, by simp, rfl, by simp at h1 ⊢; omega, fun x hx => ?_⟩
    rcases List.mem_append.mp hx with hx | hx
    · exact h2 x hx
    · simp at hx
      subst hx
      exact hc
  · rintro r S' ⟨l, d', rfl, rfl, h1, h2⟩
    refine ⟨trivial, ?_⟩
    have hll : l.length = n := by simpa using h1
    mul_fits
    try (refine w_may (strs_sing _) ?_)
    refine w_ask ?_ ?_
    · rw [sum_ones]
      have : Str.length "" = 0 := by decide
      rw [this]
      omega
    rw [glued_sing]
    mul_fits
    rw [gc_same (by rfl)]
    exact w_ok (h l d' hll h2)
theorem lst_str {S : Sto} {z : Str} (k : z.length ≤ sizeLine) : lstOf S (.val (.str z)) = some (lettersD z) := if_pos k
theorem perm_of_map {α : Type} {f : α → D} : ∀ {l : List D} {m : List α}, l.Perm (m.map f) → ∃ l' : List α, l'.Perm m ∧ l = l'.map f := by
  intro l m h
  generalize hm : m.map f = k at h
  induction h generalizing m with
  | nil => exact ⟨[], by rw [List.map_eq_nil_iff.mp hm], rfl⟩
  | cons x _ ih =>
    cases m with
    | nil => cases hm
    | cons y m =>
      rw [List.map_cons, List.cons.injEq] at hm
      obtain ⟨l', h1, h2⟩ := ih hm.2
      exact ⟨y :: l', h1.cons y, by rw [List.map_cons, hm.1, h2]⟩
  | swap x y l =>
    match m, hm with
    | a :: b :: m, hm =>
      simp only [List.map_cons, List.cons.injEq] at hm
      obtain ⟨rfl, rfl, rfl⟩ := hm
      exact ⟨b :: a :: m, List.Perm.swap _ _ _, rfl⟩
  | trans _ _ ih1 ih2 =>
    obtain ⟨l2, h1, rfl⟩ := ih2 hm
    obtain ⟨l1, h3, rfl⟩ := ih1 rfl
    exact ⟨l1, h3.trans h1, rfl⟩
def abc : List Nat := (Str.cps "abcdefghijklmnopqrstuvwxyz").toList
def ABC : List Nat := (Str.cps "ABCDEFGHIJKLMNOPQRSTUVWXYZ").toList
theorem lt_abc : ∀ x ∈ abc.map singD, Lt x := fun x hx => by
  obtain ⟨c, hc, rfl⟩ := List.mem_map.mp hx
  have : ∀ c ∈ abc, c < 1114112 := by decide
  exact ⟨c, this c hc, rfl⟩
/-- some letters -/
theorem letters_w {m : Nat} (h : ∀ (l : List D) (b : Nat) (g : Sto) (d' : DS), l.length = min m 26 → (∀ x ∈ l, Lt x) → R.length ≤ b → (R ++ g)[b]? = some (.lst l) → Q (.ref (b + 2)) (d'.st (R ++ g))) : W (orc T (k + 4) n__law_letters [.ref 1, .int (m : Int)] (d.st R)) Q := by
  refine orc_w (ρ := [some (.ref 1), some (.int (m : Int))]) rfl rfl rfl ?_
  show W (evSs _ b__law_letters _ _) _
  simp only [b__law_letters]
  mul_fits
  rw [show lettersD (Str.ofString "abcdefghijklmnopqrstuvwxyz") = abc.map singD from rfl]
  simp only [st_len, st_app]
  refine some_w (b := R.length) (row := abc.map singD) (by rw [List.length_map]; decide) (get_end _ _) fun full g d' hp => ?_
  mul_fits
  rw [gc_out (by simp [below, st_len]; omega)]
  refine w_ok ?_
  have hle : R.length ≤ R.length + 1 + g.length := by omega
  have := h (full.take m) (R.length + 1 + g.length) ([.lst (abc.map singD)] ++ (g ++ [.lst (full.take m)])) d' ?_ ?_ hle ?_
  · rw [← List.append_assoc] at this
    rw [show (R ++ [Ob.lst (abc.map singD)]).length + g.length + 2 = R.length + 1 + g.length + 2 by simp]
    exact this
  · have := hp.length_eq
    rw [List.length_map] at this
    rw [List.length_take, this]
    rfl
  · exact fun x hx => lt_abc x (hp.mem_iff.mp (List.mem_of_mem_take hx))
  · rw [← List.append_assoc, ← List.append_assoc, show R.length + 1 + g.length = (R ++ [Ob.lst (abc.map singD)] ++ g).length by simp; omega]
    exact get_end _ _
/-- a name: a letter, some signs -/
def hd (s : Str) : Option Nat := s.cps.toList.head?
structure NmOk (l : List Str) : Prop where
  nd : (l.map hd).Nodup
  ne : ∀ s ∈ l, s.length ≠ 0
  le : ∀ s ∈ l, s.length ≤ 60
def signs : Str := "abcdefghijklmnopqrstuvwxyzABCDEFGHIJKLMNOPQRSTUVWXYZ0123456789_"
theorem names_w {m : Nat} (hm : m ≤ 26) (h : ∀ (l : List Str) (b : Nat) (g : Sto) (d' : DS), l.length = m → NmOk l → R.length ≤ b → (R ++ g)[b]? = some (.lst (l.map .str)) → Q (.ref (b + 2)) (d'.st (R ++ g))) : W (orc T (k + 4) n__law_names [.ref 1, .int (m : Int)] (d.st R)) Q := by
  refine orc_w (ρ := [some (.ref 1), some (.int (m : Int)), none, none, none, none]) rfl rfl rfl ?_
  show W (evSs _ b__law_names _ _) _
  simp only [b__law_names]
  mul_fits
  rw [show lettersD (Str.ofString "ABCDEFGHIJKLMNOPQRSTUVWXYZ") = ABC.map singD from rfl]
  simp only [st_len, st_app]
  refine some_w (b := (R ++ [Ob.lst []]).length) (row := ABC.map singD) (by rw [List.length_map]; decide) (get_end _ _) fun full g d' hp => ?_
  obtain ⟨fl, hp2, rfl⟩ := perm_of_map hp
  have ef : (fl.map singD).take m = (fl.take m).map singD := by rw [List.map_take]
  rw [ef]
  have nd : (fl.take m).Nodup := (hp2.nodup_iff.mpr (by decide)).sublist (List.take_sublist _ _)
  have fm : (fl.take m).length = m := by
    have : fl.length = 26 := hp2.length_eq
    rw [List.length_take, this]
    omega
  generalize fl.take m = ls at nd fm
  have gg := get_g (R := R ++ [Ob.lst []] ++ [Ob.lst (ABC.map singD)]) (d := d') (g := g) (o := .lst (ls.map singD))
  have eA : R ++ [Ob.lst []] ++ [Ob.lst (ABC.map singD)] ++ (g ++ [Ob.lst (ls.map singD)]) = R ++ [Ob.lst []] ++ ([Ob.lst (ABC.map singD)] ++ (g ++ [Ob.lst (ls.map singD)])) := by simp
  rw [eA] at gg ⊢
  generalize ha : (R ++ [Ob.lst []] ++ [Ob.lst (ABC.map singD)]).length + g.length = at_ at gg ⊢
  have hat : R.length < at_ := by
    rw [← ha]
    simp
    omega
  generalize [Ob.lst (ABC.map singD)] ++ (g ++ [Ob.lst (ls.map singD)]) = G at gg ⊢
  have gf : ∀ (d : DS) (l : List D), (d.st (R ++ [Ob.lst l] ++ G))[at_ + 2]? = some (.lst (ls.map singD)) := fun d l => by
    rw [st_get] at gg ⊢
    exact get_far hat gg
  have it : itOf (.val (.ref (at_ + 2))) (d'.st (R ++ [Ob.lst []] ++ G)) = some ⟨ls.map singD, some (at_ + 2)⟩ := by
    simp only [itOf, sqOf, lsOf, gg, Option.map_some]
  mul_fits
  try (refine w_may it ?_)
  mul_fits
  refine loopS_w (fun ds ρ S' => ∃ (r : List Nat) (l : List Str) (o4 : Option D) (d' : DS), ds = r.map singD ∧ S' = d'.st (R ++ [.lst (l.map .str)] ++ G) ∧ ρ = [some (.ref 1), some (.int (m : Int)), some (.str signs), some (.ref (R.length + 2)), o4, none] ∧ l.map hd ++ r.map some = ls.map some ∧ (∀ s ∈ l, s.length ≠ 0 ∧ s.length ≤ 60)) ?_ ?_ _ _ _ ⟨ls, [], _, d', rfl, rfl, rfl, by simp, by simp⟩
  · rintro e ds ρ S' ⟨r, l, o4, d', hds, rfl, rfl, h1, h2⟩
    refine ⟨gf d' _, ?_⟩
    cases r with
    | nil => exact absurd hds (by simp)
    | cons q r =>
    rw [List.map_cons, List.cons.injEq] at hds
    obtain ⟨rfl, rfl⟩ := hds
    have ll : l.length < 1000 := by
      have := congrArg List.length h1
      simp at this
      omega
    simp only [b__law_names_1]
    have k1 : ∀ (d : DS) l, (d.st (R ++ [.lst l] ++ G))[R.length + 2]? = some (.lst l) := fun d l => st_mid
    mul_fits
    refine w_withL (k1 _ _) ?_
    mul_fits
    refine draw_ (by decide) (by decide) fun y d1 y0 y1 => ?_
    obtain ⟨y, rfl⟩ := Int.eq_ofNat_of_zero_le y0
    mul_fits
    refine ⟨by show (rgD 0 _).length ≤ sizeLine; rw [rgD0]; simp; exact le_size (by omega), ?_⟩
    refine loopQ_w (fun ds r S' => ∃ (z : List Nat) (d' : DS), r = z.map singD ∧ S' = d'.st (R ++ [.lst (l.map .str)] ++ G) ∧ z.length + ds.length = y) ?_ ?_ _ _ ⟨[], d1, rfl, rfl, by rw [rgD0]; simp⟩
    · rintro e2 ds2 r2 S2 ⟨z, d2, rfl, rfl, z1⟩
      refine ⟨trivial, ?_⟩
      mul_fits
      refine draw_ (by decide) (by decide) fun u d3 u0 u1 => ?_
      have hu : u.toNat < signs.cps.toList.length := by
        have : signs.cps.toList.length = 63 := by decide
        omega
      have k2 : atI signs.cps.toList u = some (signs.cps.toList[u.toNat]) := by
        unfold atI ixN
        have : signs.cps.toList.length = 63 := by decide
        rw [if_pos u0, if_pos (by omega)]
        simp only [List.getElem?_eq_getElem hu, Option.bind_some]
      refine v_idxS (le64 (by decide)) k2 ?_
      mul_fits
      exact ⟨z ++ [signs.cps.toList[u.toNat]], d3, by simp; rfl, rfl, by simp at z1 ⊢; omega⟩
    · rintro r2 S2 ⟨z, d2, rfl, rfl, z1⟩
      refine ⟨trivial, ?_⟩
      have z1 : z.length = y := by simpa using z1
      mul_fits
      try (refine w_may (strs_sing _) ?_)
      refine w_ask ?_ ?_
      · rw [sum_ones]
        have : Str.length "" = 0 := by decide
        rw [this]
        omega
      rw [glued_sing]
      mul_fits
      refine v_addS (by rw [st_length]; exact le_size (by show 1 + _ ≤ _; omega)) ?_
      refine v_app (k1 _ _) (by rw [List.length_map]; exact le_size (by omega)) ?_
      rw [st_set_mid]
      mul_fits
      have en : (⟨#[q]⟩ : Str) ++ stS z = stS (q :: z) := by
        show (⟨#[q] ++ z.toArray⟩ : Str) = ⟨(q :: z).toArray⟩
        simp
      refine ⟨_, .inl rfl, r, l ++ [stS (q :: z)], _, d2, rfl, ?_, rfl, ?_, fun s hs => ?_⟩
      · rw [List.map_append, ← en]
        rfl
      · rw [← h1, List.map_append]
        simp [hd, stS]
      · rcases List.mem_append.mp hs with hs | hs
        · exact h2 s hs
        · simp at hs
          subst hs
          rw [st_length]
          simp
          omega
  · rintro ρ S' ⟨r, l, o4, d', hds, rfl, rfl, h1, h2⟩
    refine ⟨gf d' _, ?_⟩
    cases r with
    | cons q r => exact absurd hds (by simp)
    | nil =>
    rw [List.map_nil, List.append_nil] at h1
    mul_fits
    simp only [b__law_names_2]
    mul_fits
    rw [List.append_assoc, gc_out (by simp [below, st_len])]
    refine w_ok (h l R.length _ d' ?_ ⟨?_, fun s hs => (h2 s hs).1, fun s hs => (h2 s hs).2⟩ (Nat.le_refl _) ?_)
    · have := congrArg List.length h1
      simpa [fm] using this
    · rw [h1]
      rw [List.Nodup, List.pairwise_map]
      exact nd.imp fun h z => h (Option.some.inj z)
    · rw [← List.append_assoc]
      exact get_mid _ _ _
end
/-! ### rules, books -/
structure Sl where
  nm : Str
  pl : List Nat
abbrev Sl.d (s : Sl) : D := .tup [.str s.nm, .tup (s.pl.map natD)]
structure Rl where
  nm : Str
  ms : List Nat
  ts : List Pt
  sl : List Sl
abbrev Rl.d (r : Rl) : D := .tup [.str r.nm, .str (stS r.ms), .tup (r.ts.map Pt.d), .tup (r.sl.map Sl.d)]
abbrev prD (p : Str × Nat) : D := .tup [.str p.1, natD p.2]
structure Bk where
  top : Str
  nms : List (Str × Nat)
  rls : List Rl
abbrev Bk.d (b : Bk) : D := .tup [.str b.top, .tup (b.nms.map prD), .tup (b.rls.map Rl.d)]
theorem pd_nats (l : List Nat) : Pd (.tup (l.map natD)) := pd_map fun _ _ => trivial
theorem pd_sl (s : Sl) : Pd s.d := ⟨trivial, pd_nats _, trivial⟩
theorem pd_rl (r : Rl) : Pd r.d := ⟨trivial, trivial, below_pts _, pd_map fun s _ => pd_sl s, trivial⟩
theorem pd_pr (p : Str × Nat) : Pd (prD p) := ⟨trivial, trivial, trivial⟩
theorem pd_bk (b : Bk) : Pd b.d := ⟨trivial, pd_map fun p _ => pd_pr p, pd_map fun r _ => pd_rl r, trivial⟩
/-- a rule as it is drawn -/
structure RlOk (r : Rl) (nm : Str) (ar : Nat) (used : List (Str × Nat)) (inner : Nat) : Prop where
  nm : r.nm = nm
  msl : r.ms.length ≤ inner + 3
  sl : All2 (fun (p : Str × Nat) (s : Sl) => s.nm = p.1 ∧ s.pl.length = p.2 ∧ s.pl.Nodup ∧ ∀ x ∈ s.pl, x < ar + r.ms.length) used r.sl
  ts : ∀ p ∈ r.ts, p.one < ar + r.ms.length ∧ p.other < ar + r.ms.length
/-- a row of letters of the store -/
structure Row (R : Sto) (b : Nat) : Prop where
  ex : ∃ row : List D, 0 < row.length ∧ row.length < 1000 ∧ R[b]? = some (.lst row) ∧ ∀ x ∈ row, Lt x
theorem Row.pre {R g : Sto} {b : Nat} (h : Row R b) : Row (R ++ g) b := by
  obtain ⟨row, h1, h2, h3, h4⟩ := h.ex
  exact ⟨row, h1, h2, get_pre h3, h4⟩
section
variable {k : Nat} {R : Sto} {Q : D → Sto → Prop} {d : DS} {m : Int}
theorem rule_w {nm : Str} {ar inner t bs b2 b3 : Nat} {used : List (Str × Nat)} (har : ar ≤ 3) (hin : inner ≤ 500) (ht : t ≤ 60) (hu : ∀ p ∈ used, p.2 ≤ 3) (hul : used.length ≤ 10) (hbs : R[bs]? = some (.lst (used.map prD))) (hm : Row R b2) (hs : Row R b3)
    (h : ∀ (r : Rl) (d' : DS), RlOk r nm ar used inner → Q r.d (d'.st R)) : W (orc T (k + 5) n__law_rule [.ref 1, prD (nm, ar), .ref (bs + 2), natD inner, natD t, .ref (b2 + 2), .ref (b3 + 2)] (d.st R)) Q := by
  refine orc_w (ρ := [some (.ref 1), some (prD (nm, ar)), some (.ref (bs + 2)), some (natD inner), some (natD t), some (.ref (b2 + 2)), some (.ref (b3 + 2)), none, none, none, none]) rfl rfl rfl ?_
  show W (evSs _ b__law_rule _ _) _
  simp only [b__law_rule]
  have k1 : ∀ (d : DS) (g : Sto), (d.st (R ++ g))[bs + 2]? = some (.lst (used.map prD)) := fun d g => by rw [st_get]; exact get_pre hbs
  have it : ∀ (d : DS) (g : Sto), itOf (.val (.ref (bs + 2))) (d.st (R ++ g)) = some ⟨used.map prD, some (bs + 2)⟩ := fun d g => by
    simp only [itOf, sqOf, lsOf, k1, Option.map_some]
  have it0 := it d []
  have k10 := k1 d []
  rw [List.append_nil] at it0 k10
  have zl : (used.map prD).length ≤ sizeLine := by rw [List.length_map]; exact le_size (by omega)
  mul_fits
  try (refine w_may it0 ?_)
  mul_fits
  refine loopQ_m prD (fun p => .int ((p.2 : Int) - (ar : Int))) (fun S => S = d.st R) used (fun p hp S e => ?_) (fun S e => ?_) _ rfl
  · subst e
    refine ⟨k10, ?_⟩
    mul_fits
    exact ⟨rfl, rfl⟩
  subst e
  refine ⟨k10, ?_⟩
  mul_fits
  have eints : ([natD inner] ++ used.map fun p => D.int ((p.2 : Int) - (ar : Int))) = ((inner : Int) :: used.map fun p => (p.2 : Int) - (ar : Int)).map D.int := by simp
  refine w_ask (by rw [List.length_map]; exact le_size (by simp; omega)) ?_
  rw [eints]
  mul_fits
  obtain ⟨mx, hmx⟩ : ∃ mx, greatest ((inner : Int) :: used.map fun p => (p.2 : Int) - (ar : Int)) = some mx := by
    cases e : greatest ((inner : Int) :: used.map fun p => (p.2 : Int) - (ar : Int)) with
    | some v => exact ⟨v, rfl⟩
    | none =>
      have : ∀ (x : Int) (l : List Int), greatest (x :: l) ≠ none := by
        intro x l
        induction l generalizing x with
        | nil => intro z; cases z
        | cons y l ih =>
          intro z
          have z : (greatest (y :: l)).map _ = none := z
          rw [Option.map_eq_none_iff] at z
          exact ih y z
      exact absurd e (this _ _)
  obtain ⟨m1, m2⟩ := greatest_spec hmx
  have m0 := m2 (inner : Int) (by simp)
  have m3 : mx ≤ (inner : Int) + 3 := by
    rcases List.mem_cons.mp m1 with e | e
    · omega
    · obtain ⟨p, hp, e⟩ := List.mem_map.mp e
      have := hu p hp
      omega
  have m4 : ∀ p ∈ used, (p.2 : Int) - (ar : Int) ≤ mx := fun p hp => m2 _ (List.mem_cons_of_mem _ (List.mem_map.mpr ⟨p, hp, rfl⟩))
  obtain ⟨own, rfl⟩ := Int.eq_ofNat_of_zero_le (by omega : 0 ≤ mx)
  refine v_max (show lsOf _ (.own _) = some _ from rfl) (ints_map _) hmx ?_
  mul_fits
  try (refine w_may it0 ?_)
  mul_fits
  have e0 : ((ar : Int) + (own : Int)) = ((ar + own : Nat) : Int) := by omega
  rw [e0]
  refine loopQ_e prD Sl.d (fun (p : Str × Nat) (s : Sl) => s.nm = p.1 ∧ s.pl.length = p.2 ∧ s.pl.Nodup ∧ ∀ x ∈ s.pl, x < ar + own) (fun S => ∃ d' g, S = d'.st (R ++ g)) used (fun p hp S e => ?_) (fun sl S a e => ?_) _ ⟨d, [], by rw [List.append_nil]⟩
  · obtain ⟨d', g, rfl⟩ := e
    refine ⟨k1 d' g, ?_⟩
    have rgok : RgOk 0 ((ar + own : Nat) : Int) := by unfold RgOk; omega
    mul_fits
    simp only [st_len, st_app]
    have hn : (rgD 0 ((ar + own : Nat) : Int)).length = ar + own := by rw [rgD0]; simp
    refine some_w (b := (R ++ g).length) (m := p.2) (row := rgD 0 ((ar + own : Nat) : Int)) (by rw [hn]; omega) (get_end _ _) fun full g2 d2 hp2 => ?_
    rw [rgD0] at hp2
    obtain ⟨fl, hp3, rfl⟩ := perm_of_map (f := natD) hp2
    have gg := get_g (R := R ++ g ++ [Ob.lst (rgD 0 ((ar + own : Nat) : Int))]) (d := d2) (g := g2) (o := .lst ((fl.map natD).take p.2))
    have sq : sqOf (d2.st (R ++ g ++ [Ob.lst (rgD 0 ((ar + own : Nat) : Int))] ++ (g2 ++ [Ob.lst ((fl.map natD).take p.2)]))) (.val (.ref ((R ++ g ++ [Ob.lst (rgD 0 ((ar + own : Nat) : Int))]).length + g2.length + 2))) = some ((fl.map natD).take p.2) := by simp only [sqOf, lsOf, gg]
    mul_fits
    refine ⟨⟨p.1, fl.take p.2⟩, by show _ = some (D.tup [.str p.1, .tup ((fl.take p.2).map natD)]); rw [List.map_take], ⟨d2, g ++ [Ob.lst (rgD 0 ((ar + own : Nat) : Int))] ++ (g2 ++ [Ob.lst ((fl.map natD).take p.2)]), by simp⟩, rfl, ?_, ?_, fun x hx => ?_⟩
    · have := hp3.length_eq
      have := m4 p hp
      rw [List.length_take]
      simp at *
      omega
    · exact (hp3.nodup_iff.mpr List.nodup_range).sublist (List.take_sublist _ _)
    · exact List.mem_range.mp (hp3.mem_iff.mp (List.mem_of_mem_take hx))
  obtain ⟨d', g, rfl⟩ := e
  refine ⟨k1 d' g, ?_⟩
  mul_fits
  obtain ⟨mrow, r1, r2, r3, r4⟩ := hm.ex
  refine marks_w (n := own) (by omega) r1 r2 (get_pre r3) r4 fun ms d2 hms _ => ?_
  mul_fits
  obtain ⟨srow, s1, s2, s3, s4⟩ := hs.ex
  refine ties_w (n := ar + own) (t := t) (by omega) ht s1 s2 (get_pre s3) s4 fun pt d3 hpt => ?_
  mul_fits
  refine gc_st2 ((pd_rl ⟨nm, ms, pt, sl⟩).b _) ?_
  refine h ⟨nm, ms, pt, sl⟩ d3 ⟨rfl, ?_, ?_, ?_⟩
  · show ms.length ≤ _
    omega
  · show All2 (fun (p : Str × Nat) (s : Sl) => s.nm = p.1 ∧ s.pl.length = p.2 ∧ s.pl.Nodup ∧ ∀ x ∈ s.pl, x < ar + ms.length) used sl
    rw [hms]
    exact a
  · show ∀ p ∈ pt, p.one < ar + ms.length ∧ p.other < ar + ms.length
    rw [hms]
    exact hpt
end
/-! ### a book -/
/-- a rule within names -/
structure RlIn (nms : List (Str × Nat)) (r : Rl) : Prop where
  ex : ∃ a, (r.nm, a) ∈ nms ∧ (∀ s ∈ r.sl, ∃ a', (s.nm, a') ∈ nms ∧ s.pl.length = a' ∧ s.pl.Nodup ∧ ∀ x ∈ s.pl, x < a + r.ms.length) ∧ (∀ p ∈ r.ts, p.one < a + r.ms.length ∧ p.other < a + r.ms.length)
  sl : r.sl.length ≤ 3
  ms : r.ms.length ≤ 6
structure BkOk (b : Bk) : Prop where
  nd : NmOk (b.nms.map (·.1))
  top : b.top ∈ b.nms.map (·.1)
  ar : ∀ p ∈ b.nms, p.2 ≤ 3
  rl : ∀ r ∈ b.rls, RlIn b.nms r
theorem toPs_prs (f : Nat → Option PyData) (l : List (Str × Nat)) : toPsW f (l.map prD) = some (l.map fun p => .tuple [.str p.1, .int (p.2 : Nat)]) := by
  induction l with
  | nil => rfl
  | cons x l ih => simp [toPsW, toPW, ih]
theorem sort_prs {S : Sto} {l : List (Str × Nat)} {Q : List D → Sto → Prop} (h : ∀ l' : List (Str × Nat), l'.Perm l → Q (l'.map prD) S) : W (sortD S (l.map prD)) Q := by
  have e : toPs S (l.map prD) = some _ := toPs_prs _ _
  unfold sortD
  rw [e]
  refine w_ask ⟨fun a ha b hb => ?_, .inl fun a ha => ?_, fun a ha => ?_⟩ (w_ok ?_)
  · obtain ⟨x, _, rfl⟩ := List.mem_map.mp ha
    obtain ⟨y, _, rfl⟩ := List.mem_map.mp hb
    simp [PySem.W.alike, PySem.W.alikeAll]
  · obtain ⟨x, _, rfl⟩ := List.mem_map.mp ha
    exact ⟨_, _, rfl⟩
  · obtain ⟨x, _, rfl⟩ := List.mem_map.mp ha
    simp [PyData.depth, PyData.depthAll]
  · obtain ⟨l', h1, h2⟩ := perm_of_map (List.mergeSort_perm (l.map prD) (PySem.W.dataLe false fun d => (toP S d).getD .none))
    rw [h2]
    exact h l' h1
theorem rlIn_of {nms : List (Str × Nat)} {r : Rl} {nm : Str} {a inner : Nat} {used : List (Str × Nat)} (o : RlOk r nm a used inner) (hin : inner ≤ 3) (ha : (nm, a) ∈ nms) (hu : ∀ p ∈ used, p ∈ nms) (hl : used.length ≤ 3) : RlIn nms r := by
  refine ⟨⟨a, by rw [o.nm]; exact ha, fun s hs => ?_, o.ts⟩, by rw [o.sl.len]; exact hl, by have := o.msl; omega⟩
  obtain ⟨p, hp, h1, h2, h3, h4⟩ := o.sl.mem s hs
  exact ⟨p.2, by rw [h1]; exact hu p hp, h2, h3, h4⟩
section
variable {k : Nat} {R : Sto} {Q : D → Sto → Prop} {d : DS} {m : Int}
theorem book_w {many arity more slots b2 b3 : Nat} (hmany : 1 ≤ many ∧ many ≤ 26) (har : arity ≤ 3) (hmore : more ≤ 500) (hsl : 1 ≤ slots ∧ slots ≤ 3) (hm : Row R b2) (hs : Row R b3)
    (h : ∀ (b : Bk) (d' : DS), BkOk b → b.nms.length = many → b.rls.length ≤ many + more → (∀ p ∈ b.nms, ∃ r ∈ b.rls, r.nm = p.1 ∧ r.sl = []) → Q b.d (d'.st R)) : W (orc T (k + 6) n__law_book [.ref 1, natD many, natD arity, natD more, natD slots, .ref (b2 + 2), .ref (b3 + 2)] (d.st R)) Q := by
  refine orc_w (ρ := [some (.ref 1), some (natD many), some (natD arity), some (natD more), some (natD slots), some (.ref (b2 + 2)), some (.ref (b3 + 2)), none, none, none, none, none, none, none, none]) rfl rfl rfl ?_
  show W (evSs _ b__law_book _ _) _
  simp only [b__law_book]
  mul_fits
  refine names_w hmany.2 fun ns b g d1 hl hok hb1 hb2 => ?_
  have hm := hm.pre (g := g)
  have hs := hs.pre (g := g)
  have h : ∀ (bk : Bk) (d' : DS), BkOk bk → bk.nms.length = many → bk.rls.length ≤ many + more → (∀ p ∈ bk.nms, ∃ r ∈ bk.rls, r.nm = p.1 ∧ r.sl = []) → Q bk.d (d'.st R) := h
  have k0 : ∀ (d : DS) (g2 : Sto), (d.st (R ++ g ++ g2))[b + 2]? = some (.lst (ns.map .str)) := fun d g2 => by rw [st_get]; exact get_pre hb2
  obtain ⟨n0, nr, rfl⟩ : ∃ n0 nr, ns = n0 :: nr := by
    cases ns with
    | nil => simp at hl; omega
    | cons a r => exact ⟨a, r, rfl⟩
  have it0 : itOf (.val (.ref (b + 2))) (d1.st (R ++ g)) = some ⟨(n0 :: nr).map .str, some (b + 2)⟩ := by
    have := k0 d1 []
    rw [List.append_nil] at this
    simp only [itOf, sqOf, lsOf, this, Option.map_some]
  mul_fits
  try (refine w_may it0 ?_)
  mul_fits
  refine ⟨by rw [List.length_map, hl]; exact le_size (by omega), ?_⟩
  have k00 : ∀ d : DS, (d.st (R ++ g))[b + 2]? = some (.lst ((n0 :: nr).map .str)) := fun d => by
    have := k0 d []
    rwa [List.append_nil] at this
  refine loopQ_e D.str prD (fun (s : Str) (p : Str × Nat) => p.1 = s ∧ p.2 ≤ 3) (fun S => ∃ d', S = d'.st (R ++ g)) (n0 :: nr) (fun p hp S e => ?_) (fun ps S a e => ?_) _ ⟨d1, rfl⟩
  · obtain ⟨d', rfl⟩ := e
    refine ⟨k00 d', ?_⟩
    mul_fits
    refine v_idx (k00 d') (show atI ((n0 :: nr).map D.str) 0 = some (.str n0) from by rw [List.map_cons]; exact at_nat (k := 0) _ (by simp)) ?_
    mul_fits
    refine w_ifd (fun c => ?_) fun c => ?_
    · mul_fits
      exact ⟨(p, 0), rfl, ⟨d', rfl⟩, rfl, by omega⟩
    · mul_fits
      refine draw_ (by omega) (by omega) fun y d2 y0 y1 => ?_
      obtain ⟨y, rfl⟩ := Int.eq_ofNat_of_zero_le y0
      mul_fits
      exact ⟨(p, y), rfl, ⟨d2, rfl⟩, rfl, by omega⟩
  obtain ⟨d2, rfl⟩ := e
  refine ⟨k00 d2, ?_⟩
  have pn : ps.map (·.1) = n0 :: nr := by
    have := All2.map (f := fun s : Str => s) (g := fun p : Str × Nat => p.1) (a.imp fun _ _ z => z.1)
    rw [this, List.map_id']
  have pa : ∀ p ∈ ps, p.2 ≤ 3 := fun p hp => by
    obtain ⟨s, _, _, z⟩ := a.mem p hp
    exact z
  have pl : ps.length = many := by rw [← hl, ← pn, List.length_map]
  mul_fits
  simp only [st_len, st_app]
  have hA0 : R ++ g ++ [Ob.lst (ps.map prD)] = R ++ (g ++ [Ob.lst (ps.map prD)]) := List.append_assoc _ _ _
  have kP : ∀ (d : DS) (g2 : Sto), (d.st (R ++ g ++ [Ob.lst (ps.map prD)] ++ g2))[(R ++ g).length + 2]? = some (.lst (ps.map prD)) := fun d g2 => st_mid
  have kP' : ∀ g2 : Sto, (R ++ g ++ [Ob.lst (ps.map prD)] ++ g2)[(R ++ g).length]? = some (.lst (ps.map prD)) := fun g2 => get_mid _ _ _
  have kN : ∀ (d : DS) (g2 : Sto), (d.st (R ++ g ++ [Ob.lst (ps.map prD)] ++ g2))[b + 2]? = some (.lst ((n0 :: nr).map .str)) := fun d g2 => by
    rw [List.append_assoc (R ++ g)]
    exact k0 d _
  have hm : Row (R ++ g ++ [Ob.lst (ps.map prD)]) b2 := hm.pre
  have hs : Row (R ++ g ++ [Ob.lst (ps.map prD)]) b3 := hs.pre
  generalize (R ++ g).length = P at kP kP' ⊢
  generalize hA : R ++ g ++ [Ob.lst (ps.map prD)] = A at kP kP' kN hm hs ⊢
  have itp : ∀ (d : DS) (g2 : Sto), itOf (.val (.ref (P + 2))) (d.st (A ++ g2)) = some ⟨ps.map prD, some (P + 2)⟩ := fun d g2 => by
    simp only [itOf, sqOf, lsOf, kP, Option.map_some]
  have kL : ∀ (d : DS) (l : List D) (g2 : Sto), (d.st (A ++ [Ob.lst l] ++ g2))[A.length + 2]? = some (.lst l) := fun d l g2 => st_mid
  have kP2 : ∀ (d : DS) (l : List D) (g2 : Sto), (d.st (A ++ [Ob.lst l] ++ g2))[P + 2]? = some (.lst (ps.map prD)) := fun d l g2 => by
    rw [List.append_assoc]
    exact kP d _
  have fin : ∀ (acc : List Rl) (g2 : Sto) (o10 o11 o12 : Option D) (d' : DS), (∀ x ∈ acc, RlIn ps x) → acc.length = many + more → (∀ p ∈ ps, ∃ x ∈ acc, x.nm = p.1 ∧ x.sl = []) →
      W (evSs (orc T (k + 5)) b__law_book_4 [some (.ref 1), some (natD many), some (natD arity), some (natD more), some (natD slots), some (.ref (b2 + 2)), some (.ref (b3 + 2)), some (.ref (b + 2)), some (.ref (P + 2)), some (.ref (A.length + 2)), o10, o11, o12, none, none] (d'.st (A ++ [.lst (acc.map Rl.d)] ++ g2))) fun fl S1 => W (retK fl S1) fun x S' => W (gc (d.st R) x S') Q := by
    intro acc g2 o10 o11 o12 d' a1 a2 a3
    simp only [b__law_book_4]
    have kN2 : (d'.st (A ++ [.lst (acc.map Rl.d)] ++ g2))[b + 2]? = some (.lst ((n0 :: nr).map .str)) := by
      rw [List.append_assoc]
      exact kN d' _
    have ls : lsOf (d'.st (A ++ [.lst (acc.map Rl.d)] ++ g2)) (.val (.ref (P + 2))) = some (ps.map prD) := by simp only [lsOf, kP2]
    mul_fits
    refine v_idx kN2 (show atI ((n0 :: nr).map D.str) 0 = some (.str n0) from by rw [List.map_cons]; exact at_nat (k := 0) _ (by simp)) ?_
    mul_fits
    try (refine w_may ls ?_)
    refine sort_prs fun ps' hp => ?_
    mul_fits
    refine shuffled_w (b := A.length) (row := acc.map Rl.d) (by rw [List.length_map]; omega) (get_mid _ _ _) fun got g3 d3 hg => ?_
    obtain ⟨acc', hq, rfl⟩ := perm_of_map hg
    have gg := get_g (R := A ++ [Ob.lst (acc.map Rl.d)] ++ g2) (d := d3) (g := g3) (o := .lst (acc'.map Rl.d))
    have sq : sqOf (d3.st (A ++ [Ob.lst (acc.map Rl.d)] ++ g2 ++ (g3 ++ [Ob.lst (acc'.map Rl.d)]))) (.val (.ref ((A ++ [Ob.lst (acc.map Rl.d)] ++ g2).length + g3.length + 2))) = some (acc'.map Rl.d) := by simp only [sqOf, lsOf, gg]
    mul_fits
    have e : A ++ [Ob.lst (acc.map Rl.d)] ++ g2 ++ (g3 ++ [Ob.lst (acc'.map Rl.d)]) = R ++ (g ++ [Ob.lst (ps.map prD)] ++ [Ob.lst (acc.map Rl.d)] ++ g2 ++ (g3 ++ [Ob.lst (acc'.map Rl.d)])) := by
      rw [← hA]
      simp
    rw [e]
    have hmem : ∀ p, p ∈ ps' ↔ p ∈ ps := fun p => hp.mem_iff
    refine gc_st2 ((pd_bk ⟨n0, ps', acc'⟩).b _) ?_
    refine h ⟨n0, ps', acc'⟩ d3 ⟨⟨?_, fun s hs => ?_, fun s hs => ?_⟩, ?_, fun p hp => pa p ((hmem p).mp hp), fun r hr => ?_⟩ ?_ ?_ fun p hp => ?_
    · exact (((hp.map _).map hd).nodup_iff).mpr (by rw [pn]; exact hok.nd)
    · have : s ∈ ps.map (·.1) := (hp.map _).mem_iff.mp hs
      rw [pn] at this
      exact hok.ne s this
    · have : s ∈ ps.map (·.1) := (hp.map _).mem_iff.mp hs
      rw [pn] at this
      exact hok.le s this
    · refine (hp.map _).mem_iff.mpr ?_
      rw [pn]
      exact List.mem_cons_self
    · have := a1 r (hq.mem_iff.mp hr)
      obtain ⟨⟨x, x1, x2, x3⟩, y, z⟩ := this
      exact ⟨⟨x, (hmem _).mpr x1, fun s hs => let ⟨a', u1, u2⟩ := x2 s hs; ⟨a', (hmem _).mpr u1, u2⟩, x3⟩, y, z⟩
    · show ps'.length = many
      rw [hp.length_eq, pl]
    · show acc'.length ≤ _
      rw [hq.length_eq, a2]
      exact Nat.le_refl _
    · obtain ⟨x, x1, x2⟩ := a3 p ((hmem p).mp hp)
      exact ⟨x, hq.mem_iff.mpr x1, x2⟩
  try (refine w_may (itp d2 [.lst []]) ?_)
  mul_fits
  refine loopS_e prD (fun r ρ S => ∃ (acc : List Rl) (g2 : Sto) (o10 : Option D) (d' : DS), S = d'.st (A ++ [.lst (acc.map Rl.d)] ++ g2) ∧ ρ = [some (.ref 1), some (natD many), some (natD arity), some (natD more), some (natD slots), some (.ref (b2 + 2)), some (.ref (b3 + 2)), some (.ref (b + 2)), some (.ref (P + 2)), some (.ref (A.length + 2)), o10, none, none, none, none] ∧ (∀ x ∈ acc, RlIn ps x) ∧ acc.length + r.length = many ∧ (∀ p ∈ r, p ∈ ps) ∧ (∀ p ∈ ps, p ∈ r ∨ ∃ x ∈ acc, x.nm = p.1 ∧ x.sl = [])) ?_ ?_ _ _ _ ⟨[], [], _, d2, by simp, rfl, by simp, by simpa using pl, fun p hp => hp, fun p hp => .inl hp⟩
  · rintro p r ρ S ⟨acc, g2, o10, d', rfl, rfl, a1, a2, a3, a4⟩
    refine ⟨kP2 d' _ _, ?_⟩
    rw [List.length_cons] at a2
    simp only [b__law_book_1]
    mul_fits
    refine w_withL (kL _ _ _) ?_
    mul_fits
    refine draw_ (by decide) (by decide) fun y d3 y0 y1 => ?_
    obtain ⟨y, rfl⟩ := Int.eq_ofNat_of_zero_le y0
    mul_fits
    refine draw_ (by decide) (by decide) fun z d4 z0 z1 => ?_
    obtain ⟨z, rfl⟩ := Int.eq_ofNat_of_zero_le z0
    mul_fits
    simp only [st_len, st_app]
    obtain ⟨inner, hi, ei⟩ : ∃ inner : Nat, inner ≤ 2 ∧ ((y : Int) + if decide (((p.2 : Nat) : Int) = 0) = true then 1 else 0) = (inner : Int) := by
      by_cases c : ((p.2 : Nat) : Int) = 0
      · exact ⟨y + 1, by omega, by rw [if_pos (decide_eq_true c)]; rfl⟩
      · exact ⟨y, by omega, by rw [if_neg (by simpa using c), Int.add_zero]⟩
    have hp := a3 p (by simp)
    have e1 : (1 : Int) + (z : Int) = ((1 + z : Nat) : Int) := by omega
    rw [e1]
    have e2 : D.int ((y : Int) + if decide (((p.2 : Nat) : Int) = 0) = true then 1 else 0) = natD inner := by rw [ei]
    rw [e2]
    refine rule_w (nm := p.1) (ar := p.2) (inner := inner) (t := 1 + z) (bs := (A ++ [Ob.lst (acc.map Rl.d)] ++ g2).length) (used := []) (pa p hp) (by omega) (by omega) (by simp) (by simp) (get_end _ _) hm.pre.pre.pre hs.pre.pre.pre fun x d5 hx => ?_
    simp only [List.append_eq]
    rw [List.append_assoc (A ++ [Ob.lst (acc.map Rl.d)])]
    mul_fits
    refine v_app (kL _ _ _) (by rw [List.length_map]; exact le_size (by omega)) ?_
    rw [st_set_mid]
    mul_fits
    have xi := rlIn_of hx (by omega) hp (by simp) (by simp)
    refine ⟨_, .inl rfl, acc ++ [x], _, _, d5, by rw [List.map_append]; rfl, rfl, fun u hu => ?_, by simp; omega, fun q hq => a3 q (by simp [hq]), fun q hq => ?_⟩
    · rcases List.mem_append.mp hu with hu | hu
      · exact a1 u hu
      · simp at hu
        subst hu
        exact xi
    · rcases a4 q hq with hq | ⟨u, u1, u2⟩
      · rcases List.mem_cons.mp hq with rfl | hq
        · refine .inr ⟨x, by simp, hx.nm, ?_⟩
          exact List.eq_nil_of_length_eq_zero hx.sl.len
        · exact .inl hq
      · exact .inr ⟨u, by simp [u1], u2⟩
  rintro ρ S ⟨acc, g2, o10, d', rfl, rfl, a1, a2, a3, a4⟩
  refine ⟨kP2 d' _ _, ?_⟩
  have a4 : ∀ p ∈ ps, ∃ x ∈ acc, x.nm = p.1 ∧ x.sl = [] := fun p hp => (a4 p hp).resolve_left (by simp)
  have a2 : acc.length = many := by simpa using a2
  mul_fits
  simp only [b__law_book_2]
  mul_fits
  rw [rgD0]
  refine loopS_e (fun k : Nat => D.int (k : Int)) (fun r ρ S => ∃ (acc : List Rl) (g2 : Sto) (o10 o11 o12 : Option D) (d' : DS), S = d'.st (A ++ [.lst (acc.map Rl.d)] ++ g2) ∧ ρ = [some (.ref 1), some (natD many), some (natD arity), some (natD more), some (natD slots), some (.ref (b2 + 2)), some (.ref (b3 + 2)), some (.ref (b + 2)), some (.ref (P + 2)), some (.ref (A.length + 2)), o10, o11, o12, none, none] ∧ (∀ x ∈ acc, RlIn ps x) ∧ acc.length + r.length = many + more ∧ (∀ p ∈ ps, ∃ x ∈ acc, x.nm = p.1 ∧ x.sl = [])) ?_ ?_ _ _ _ ⟨acc, g2, o10, _, _, d', rfl, rfl, a1, by rw [List.length_range, a2], a4⟩
  · rintro q r ρ S ⟨acc, g2, o10, o11, o12, d', rfl, rfl, a1, a2, a4⟩
    refine ⟨trivial, ?_⟩
    rw [List.length_cons] at a2
    simp only [b__law_book_3]
    mul_fits
    refine W_mono (Q := fun x S' => ∃ (p : Str × Nat) (d' : DS), p ∈ ps ∧ x = prD p ∧ S' = d'.st (A ++ [.lst (acc.map Rl.d)] ++ g2)) ?_ ?_
    · refine w_ifd (fun c => ?_) fun c => ?_
      · mul_fits
        have hpl : 0 < ps.length := by omega
        refine v_idx (kP2 _ _ _) (show atI (ps.map prD) 0 = some (prD ps[0]) from at_map prD ps 0 hpl) ?_
        exact ⟨_, d', List.getElem_mem hpl, rfl, rfl⟩
      · mul_fits
        refine pick_w (row := ps.map prD) (by rw [List.length_map]; omega) (by rw [List.length_map]; omega) (by rw [List.append_assoc]; exact kP' _) fun x hx d4 => ?_
        obtain ⟨u, hu, rfl⟩ := List.mem_map.mp hx
        exact ⟨u, d4, hu, rfl, rfl⟩
    rintro x S' ⟨p, d', hp, rfl, rfl⟩
    mul_fits
    refine draw_ (by omega) (by omega) fun y d3 y0 y1 => ?_
    obtain ⟨y, rfl⟩ := Int.eq_ofNat_of_zero_le y0
    mul_fits
    have e1 : (1 : Int) + (y : Int) = ((1 + y : Nat) : Int) := by omega
    rw [e1, rgD0]
    refine ⟨by simp; exact le_size (by omega), ?_⟩
    refine loopQ_e (fun k : Nat => D.int (k : Int)) prD (fun _ p => p ∈ ps) (fun S => ∃ d', S = d'.st (A ++ [.lst (acc.map Rl.d)] ++ g2)) _ (fun _ _ S e => ?_) (fun used S a e => ?_) _ ⟨d3, rfl⟩
    · obtain ⟨d', rfl⟩ := e
      refine ⟨trivial, ?_⟩
      mul_fits
      refine pick_w (row := ps.map prD) (by rw [List.length_map]; omega) (by rw [List.length_map]; omega) (by rw [List.append_assoc]; exact kP' _) fun x hx d4 => ?_
      obtain ⟨u, hu, rfl⟩ := List.mem_map.mp hx
      mul_fits
      exact ⟨⟨d4, rfl⟩, hu⟩
    obtain ⟨d4, rfl⟩ := e
    refine ⟨trivial, ?_⟩
    have ul : used.length = 1 + y := by rw [a.len, List.length_range]
    have uin : ∀ p ∈ used, p ∈ ps := fun p hp => (a.mem p hp).elim fun _ z => z.2
    mul_fits
    simp only [st_len, st_app]
    rw [List.append_assoc (A ++ [Ob.lst (acc.map Rl.d)])]
    refine w_withL (kL _ _ _) ?_
    mul_fits
    refine draw_ (by decide) (by decide) fun u d5 u0 u1 => ?_
    obtain ⟨u, rfl⟩ := Int.eq_ofNat_of_zero_le u0
    mul_fits
    refine draw_ (by decide) (by decide) fun v d6 v0 v1 => ?_
    obtain ⟨v, rfl⟩ := Int.eq_ofNat_of_zero_le v0
    mul_fits
    refine rule_w (nm := p.1) (ar := p.2) (inner := u) (t := v) (bs := (A ++ [Ob.lst (acc.map Rl.d)] ++ g2).length) (used := used) (pa p hp) (by omega) (by omega) (fun q hq => pa q (uin q hq)) (by omega) (by rw [← List.append_assoc]; exact get_end _ _) hm.pre.pre hs.pre.pre fun x d7 hx => ?_
    mul_fits
    refine v_app (kL _ _ _) (by rw [List.length_map]; exact le_size (by omega)) ?_
    rw [st_set_mid]
    mul_fits
    have xi := rlIn_of hx (by omega) hp uin (by omega)
    refine ⟨_, .inl rfl, acc ++ [x], _, _, _, _, d7, by rw [List.map_append]; rfl, rfl, fun w hw => ?_, by simp; omega, fun q hq => ?_⟩
    · rcases List.mem_append.mp hw with hw | hw
      · exact a1 w hw
      · simp at hw
        subst hw
        exact xi
    · obtain ⟨w, w1, w2⟩ := a4 q hq
      exact ⟨w, by simp [w1], w2⟩
  rintro ρ S ⟨acc, g2, o10, o11, o12, d', rfl, rfl, a1, a2, a4⟩
  refine ⟨trivial, ?_⟩
  mul_fits
  exact fin acc g2 _ _ _ d' a1 (by simpa using a2) a4
end
/-! ### dicts of names -/
def gS {α : Type} : List (Str × α) → Str → Option α
  | [], _ => none
  | (j, a) :: r, s => if j = s then some a else gS r s
def pS {α : Type} : List (Str × α) → Str → α → List (Str × α)
  | [], s, a => [(s, a)]
  | (j, b) :: r, s, a => if j = s then (j, a) :: r else (j, b) :: pS r s a
def encK {α : Type} (e : α → D) (l : List (Str × α)) : List (Key × D) := l.map fun p => (.inr p.1, e p.2)
section
variable {α : Type} {e : α → D}
theorem encK_len (l : List (Str × α)) : (encK e l).length = l.length := List.length_map _
theorem gD_enc (s : Str) : ∀ l : List (Str × α), gD (encK e l) (.inr s) = (gS l s).map e
  | [] => rfl
  | (j, a) :: r => by
    show (if (Sum.inr j : Key) = .inr s then some (e a) else gD (encK e r) (.inr s)) = _
    unfold gS
    by_cases h : j = s
    · rw [if_pos (by rw [h]), if_pos h]
      rfl
    · rw [if_neg (fun z => h (Sum.inr.inj z)), if_neg h, gD_enc s r]
theorem pD_enc (s : Str) (a : α) : ∀ l : List (Str × α), pD (encK e l) (.inr s) (e a) = encK e (pS l s a)
  | [] => rfl
  | (j, b) :: r => by
    show (if (Sum.inr j : Key) = .inr s then ((.inr j : Key), e a) :: encK e r else (.inr j, e b) :: pD (encK e r) (.inr s) (e a)) = _
    unfold pS
    by_cases h : j = s
    · rw [if_pos (by rw [h]), if_pos h]
      rfl
    · rw [if_neg (fun z => h (Sum.inr.inj z)), if_neg h, pD_enc s a r]
      rfl
theorem gS_pS (k j : Str) (a : α) : ∀ l : List (Str × α), gS (pS l k a) j = if k = j then some a else gS l j
  | [] => rfl
  | (i, b) :: r => by
    unfold pS
    by_cases h : i = k
    · rw [if_pos h]
      subst h
      unfold gS
      by_cases h2 : i = j
      · rw [if_pos h2, if_pos h2]
      · rw [if_neg h2, if_neg h2, if_neg h2]
    · rw [if_neg h]
      unfold gS
      rw [gS_pS k j a r]
      by_cases h2 : i = j
      · subst h2
        rw [if_pos rfl, if_pos rfl, if_neg (fun z => h z.symm)]
      · rw [if_neg h2, if_neg h2]
theorem pS_len (s : Str) (a : α) : ∀ l : List (Str × α), (pS l s a).length ≤ l.length + 1
  | [] => Nat.le_refl _
  | (i, b) :: r => by
    unfold pS
    split
    · rw [List.length_cons, List.length_cons]; omega
    · rw [List.length_cons, List.length_cons]
      have := pS_len s a r
      omega
end
/-! ### the least numbers of steps -/
abbrev Ls := List (Str × Nat)
def inL (l : Ls) (r : Rl) : Bool := r.sl.all fun s => (gS l s.nm).isSome
def smL (l : Ls) (r : Rl) : Nat := (r.sl.map fun s => (gS l s.nm).getD 0).sum
def stp (l : Ls) (r : Rl) : Ls := if inL l r = true then (match gS l r.nm with
  | none => pS l r.nm (1 + smL l r)
  | some w => if 1 + smL l r < w then pS l r.nm (1 + smL l r) else l) else l
def trn (b : Bk) (l : Ls) : Ls := b.rls.foldl stp l
def lsts (b : Bk) : Nat → Ls
  | 0 => []
  | n + 1 => trn b (lsts b n)
def lstB (b : Bk) : Ls := lsts b b.nms.length
theorem stp_len (l : Ls) (r : Rl) : (stp l r).length ≤ l.length + 1 := by
  unfold stp
  split
  · split
    · exact pS_len _ _ _
    · split
      · exact pS_len _ _ _
      · omega
  · omega
/-- less or the same, and no name lost -/
def LeL (l m : Ls) : Prop := ∀ s v, gS l s = some v → ∃ w, gS m s = some w ∧ w ≤ v
theorem LeL.refl {l : Ls} : LeL l l := fun s v h => ⟨v, h, Nat.le_refl _⟩
theorem LeL.trans {l m n : Ls} (a : LeL l m) (b : LeL m n) : LeL l n := fun s v h => by
  obtain ⟨w, h1, h2⟩ := a s v h
  obtain ⟨x, h3, h4⟩ := b s w h1
  exact ⟨x, h3, by omega⟩
theorem stp_le (l : Ls) (r : Rl) : LeL l (stp l r) := fun s v h => by
  unfold stp
  split
  · split
    · rename_i e
      rw [gS_pS, if_neg (fun z => by rw [z, h] at e; cases e)]
      exact ⟨v, h, Nat.le_refl _⟩
    · rename_i w e
      split
      · rename_i hw
        rw [gS_pS]
        by_cases c : r.nm = s
        · rw [if_pos c]
          rw [c, h] at e
          cases e
          exact ⟨_, rfl, Nat.le_of_lt hw⟩
        · rw [if_neg c]
          exact ⟨v, h, Nat.le_refl _⟩
      · exact ⟨v, h, Nat.le_refl _⟩
  · exact ⟨v, h, Nat.le_refl _⟩
theorem inL_iff {l : Ls} {r : Rl} : inL l r = true ↔ ∀ s ∈ r.sl, ∃ v, gS l s.nm = some v := by
  unfold inL
  rw [List.all_eq_true]
  exact ⟨fun h s hs => Option.isSome_iff_exists.mp (h s hs), fun h s hs => Option.isSome_iff_exists.mpr (h s hs)⟩
theorem sum_le {α : Type} {f g : α → Nat} : ∀ {l : List α}, (∀ x ∈ l, f x ≤ g x) → (l.map f).sum ≤ (l.map g).sum
  | [], _ => Nat.le_refl _
  | x :: l, h => by
    rw [List.map_cons, List.map_cons, List.sum_cons, List.sum_cons]
    have := h x (by simp)
    have := sum_le (l := l) fun y hy => h y (by simp [hy])
    omega
theorem inL_le {l m : Ls} {r : Rl} (a : LeL l m) (h : inL l r = true) : inL m r = true ∧ smL m r ≤ smL l r := by
  refine ⟨inL_iff.mpr fun s hs => ?_, sum_le fun s hs => ?_⟩
  · obtain ⟨v, hv⟩ := inL_iff.mp h s hs
    obtain ⟨w, hw, _⟩ := a _ _ hv
    exact ⟨w, hw⟩
  · obtain ⟨v, hv⟩ := inL_iff.mp h s hs
    obtain ⟨w, hw, h2⟩ := a _ _ hv
    rw [hv, hw]
    exact h2
/-- each number is borne by a rule -/
def GoodL (b : Bk) (l : Ls) : Prop := ∀ s v, gS l s = some v → ∃ r ∈ b.rls, r.nm = s ∧ inL l r = true ∧ 1 + smL l r ≤ v
theorem mem_sum {α : Type} {f : α → Nat} : ∀ {l : List α} {x : α}, x ∈ l → f x ≤ (l.map f).sum
  | y :: l, x, h => by
    rw [List.map_cons, List.sum_cons]
    rcases List.mem_cons.mp h with rfl | h
    · omega
    · have := mem_sum (f := f) h
      omega
theorem stp_good {b : Bk} {l : Ls} {r : Rl} (hr : r ∈ b.rls) (g : GoodL b l) : GoodL b (stp l r) := fun s v h => by
  have le := stp_le l r
  have keep : gS l s = some v → ∃ r' ∈ b.rls, r'.nm = s ∧ inL (stp l r) r' = true ∧ 1 + smL (stp l r) r' ≤ v := fun h => by
    obtain ⟨r', h1, h2, h3, h4⟩ := g s v h
    obtain ⟨k1, k2⟩ := inL_le le h3
    exact ⟨r', h1, h2, k1, by omega⟩
  by_cases c : inL l r = true
  · obtain ⟨k1, k2⟩ := inL_le le c
    have mine : r.nm = s → v = 1 + smL l r → ∃ r' ∈ b.rls, r'.nm = s ∧ inL (stp l r) r' = true ∧ 1 + smL (stp l r) r' ≤ v := fun e1 e2 => ⟨r, hr, e1, k1, by omega⟩
    have e : stp l r = (match gS l r.nm with
      | none => pS l r.nm (1 + smL l r)
      | some w => if 1 + smL l r < w then pS l r.nm (1 + smL l r) else l) := if_pos c
    have put : stp l r = pS l r.nm (1 + smL l r) → ∃ r' ∈ b.rls, r'.nm = s ∧ inL (stp l r) r' = true ∧ 1 + smL (stp l r) r' ≤ v := fun e => by
      have h' := h
      rw [e, gS_pS] at h'
      by_cases q : r.nm = s
      · rw [if_pos q] at h'
        exact mine q (Option.some.inj h').symm
      · rw [if_neg q] at h'
        exact keep h'
    cases q : gS l r.nm with
    | none =>
      rw [q] at e
      exact put e
    | some w =>
      rw [q] at e
      by_cases hw : 1 + smL l r < w
      · exact put (e.trans (if_pos hw))
      · have e2 : stp l r = l := e.trans (if_neg hw)
        rw [e2] at h
        exact keep h
  · have e : stp l r = l := if_neg c
    rw [e] at h
    exact keep h
theorem foldl_inv {α β : Type} {f : β → α → β} (P : β → Prop) : ∀ (l : List α) (b : β), P b → (∀ x ∈ l, ∀ b, P b → P (f b x)) → P (l.foldl f b)
  | [], _, h, _ => h
  | x :: l, b, h, k => foldl_inv P l (f b x) (k x (by simp) b h) fun y hy => k y (by simp [hy])
theorem trn_good {b : Bk} {l : Ls} (g : GoodL b l) : GoodL b (trn b l) := foldl_inv (GoodL b) _ _ g fun r hr l g => stp_good hr g
theorem trn_le {b : Bk} (l : Ls) : LeL l (trn b l) := foldl_inv (LeL l) _ _ .refl fun r _ m h => h.trans (stp_le m r)
theorem lsts_good (b : Bk) : ∀ n, GoodL b (lsts b n)
  | 0 => fun s v h => by cases h
  | n + 1 => trn_good (lsts_good b n)
theorem lsts_le (b : Bk) : ∀ {m n : Nat}, m ≤ n → LeL (lsts b m) (lsts b n)
  | m, 0, h => by
    have : m = 0 := by omega
    subst this
    exact .refl
  | m, n + 1, h => by
    by_cases e : m = n + 1
    · subst e
      exact .refl
    · exact (lsts_le b (by omega)).trans (trn_le _)
theorem lstB_good (b : Bk) : GoodL b (lstB b) := lsts_good b _
theorem good_pos {b : Bk} {l : Ls} (g : GoodL b l) {s : Str} {v : Nat} (h : gS l s = some v) : 1 ≤ v := by
  obtain ⟨_, _, _, _, k⟩ := g s v h
  omega
/-! ### the least numbers, walked -/
section
variable {k : Nat} {S : Sto} {Q : D → Sto → Prop}
theorem in_enc {S : Sto} {a : Nat} {α : Type} {e : α → D} {l : List (Str × α)} {s : Str} (k1 : S[a]? = some (.dic (encK e l))) : inD (.str s) (.val (.ref a)) S = some (gS l s).isSome := by
  rw [inD_dic k1 rfl, gD_enc, Option.isSome_map]
theorem bools_m {α : Type} (f : α → Bool) (l : List α) : boolsOf (l.map fun x => D.bl (f x)) = some (l.map f) := by
  have := bools_map (l.map f)
  rw [List.map_map] at this
  exact this
theorem ints_m {α : Type} (f : α → Nat) (l : List α) : intsOf (l.map fun x => natD (f x)) = some (l.map fun x => ((f x : Nat) : Int)) := by
  have := PQ.ints_map (l.map fun x => ((f x : Nat) : Int))
  rw [List.map_map] at this
  exact this
theorem sum_cast {α : Type} (f : α → Nat) : ∀ l : List α, (l.map fun x => ((f x : Nat) : Int)).sum = (((l.map f).sum : Nat) : Int)
  | [] => rfl
  | x :: l => by
    rw [List.map_cons, List.map_cons, List.sum_cons, List.sum_cons, sum_cast f l]
    omega
theorem all_m {α : Type} (f : α → Bool) (l : List α) : (l.map f).all id = l.all f := by
  rw [List.all_map]
  rfl
/-- all names of a row of slots are known -/
theorem known_w {C : Orc} {ρ : En} {a j v : Nat} {l : Ls} {sl : List Sl} {own : List Nat} {QQ : D → Sto → Prop} (hown : own = [j]) (hv : ρ[v]? = some (some (.ref a))) (hj : j < ρ.length) (hvj : v ≠ j) (hl : sl.length ≤ 100000) {Sx : Sto} (k1 : Sx[a]? = some (.dic (encK natD l))) (h : QQ (.bl (sl.all fun s => (gS l s.nm).isSome)) Sx)
    {it : CE} (hit : evE C it ρ Sx = .ok (.tup (sl.map Sl.d)) Sx) :
    W (evE C (.agg .all (.q (.comp own (.nm j) (.r (.e it)) (.inr (.idx (.var j) (.lit (.int 0))) (.e (.var v)))))) ρ Sx) QQ := by
  subst hown
  refine w_agg (w_q (w_comp (w_ir (w_e ?_))))
  rw [hit]
  refine w_ok (w_may (show itOf (.val (.tup (sl.map Sl.d))) Sx = some ⟨sl.map Sl.d, none⟩ from rfl) (w_ok ⟨by rw [List.length_map]; exact le_size hl, ?_⟩))
  refine loopQ_m Sl.d (fun s => .bl (gS l s.nm).isSome) (fun S => S = Sx) sl (fun s _ S e => ?_) (fun S e => ?_) _ rfl
  · subst e
    refine ⟨trivial, ?_⟩
    have e1 : wipeE ρ [j] = ρ.set j none := rfl
    have b1 : bindN (.nm j) s.d (wipeE ρ [j]) S = some ((ρ.set j none).set j (some s.d)) := rfl
    refine w_may b1 (w_bind (w_inr (w_idx (w_var (d := s.d) (by simp [hj]) (w_lit (v_idxT (d := .str s.nm) rfl (w_e (w_var (d := .ref a) ?_ (w_may (in_enc k1) (w_ok (w_ok ⟨rfl, rfl⟩)))))))))))
    rw [List.getElem?_set_ne (Ne.symm hvj), List.getElem?_set_ne (Ne.symm hvj)]
    exact hv
  · subst e
    refine ⟨trivial, v_all (show lsOf _ (.own _) = some _ from rfl) (bools_m _ _) ?_⟩
    rw [all_m]
    exact h
/-- the sum of their numbers -/
theorem known_sum {C : Orc} {ρ : En} {a j v : Nat} {l : Ls} {sl : List Sl} {own : List Nat} {QQ : D → Sto → Prop} (hown : own = [j]) (hv : ρ[v]? = some (some (.ref a))) (hj : j < ρ.length) (hvj : v ≠ j) (hl : sl.length ≤ 100000) {Sx : Sto} (k1 : Sx[a]? = some (.dic (encK natD l))) (hk : ∀ s ∈ sl, ∃ v, gS l s.nm = some v) (h : QQ (natD (sl.map fun s => (gS l s.nm).getD 0).sum) Sx)
    {it : CE} (hit : evE C it ρ Sx = .ok (.tup (sl.map Sl.d)) Sx) :
    W (evE C (.agg .sum (.q (.comp own (.nm j) (.r (.e it)) (.idx (.var v) (.idx (.var j) (.lit (.int 0))))))) ρ Sx) QQ := by
  subst hown
  refine w_agg (w_q (w_comp (w_ir (w_e ?_))))
  rw [hit]
  refine w_ok (w_may (show itOf (.val (.tup (sl.map Sl.d))) Sx = some ⟨sl.map Sl.d, none⟩ from rfl) (w_ok ⟨by rw [List.length_map]; exact le_size hl, ?_⟩))
  refine loopQ_m Sl.d (fun s => natD ((gS l s.nm).getD 0)) (fun S => S = Sx) sl (fun s hs S e => ?_) (fun S e => ?_) _ rfl
  · subst e
    refine ⟨trivial, ?_⟩
    obtain ⟨x, hx⟩ := hk s hs
    have b1 : bindN (.nm j) s.d (wipeE ρ [j]) S = some ((ρ.set j none).set j (some s.d)) := rfl
    refine w_may b1 (w_bind (w_idx (w_var (d := .ref a) ?_ (w_idx (w_var (d := s.d) (by simp [hj]) (w_lit (v_idxT (d := .str s.nm) rfl (v_idxK k1 rfl (show gD (encK natD l) (.inr s.nm) = some (natD x) from by rw [gD_enc, hx]; rfl) (w_ok ⟨by rw [hx]; rfl, rfl⟩)))))))))
    rw [List.getElem?_set_ne (Ne.symm hvj), List.getElem?_set_ne (Ne.symm hvj)]
    exact hv
  · subst e
    refine ⟨trivial, v_sum (show lsOf _ (.own _) = some _ from rfl) (ints_m _ _) ?_⟩
    rw [sum_cast]
    exact h
theorem least_w {b : Bk} (hz : b.nms.length ≤ 70) (hr : b.rls.length ≤ 1000) (hs : ∀ r ∈ b.rls, r.sl.length ≤ 3) (h : Q (.ref S.length) (S ++ [.dic (encK natD (lstB b))])) : W (orc T (k + 1) n__law_least [b.d] S) Q := by
  refine orc_w (ρ := [some b.d, none, none, none, none, none]) rfl rfl rfl ?_
  show W (evSs _ b__law_least _ _) _
  simp only [b__law_least]
  mul_fits
  rw [List.length_map]
  have bd : bd62 0 ∧ bd62 (b.nms.length : Int) := by unfold bd62; omega
  mul_fits
  rw [rgD_0]
  refine loopS_w (fun ds ρ S' => ∃ (c m : Nat) (o2 o3 o4 o5 : Option D), c + m = b.nms.length ∧ ds = (List.range' c m).map natD ∧ S' = S ++ [.dic (encK natD (lsts b c))] ∧ ρ = [some b.d, some (.ref S.length), o2, o3, o4, none] ∧ (lsts b c).length ≤ c * b.rls.length) ?_ ?_ _ _ _ ⟨0, b.nms.length, _, _, _, none, by omega, rfl, rfl, rfl, by simp [lsts]⟩
  · rintro d ds ρ S' ⟨c, m, o2, o3, o4, o5, hcm, hds, rfl, rfl, hlen⟩
    refine ⟨trivial, ?_⟩
    cases m with
    | zero => exact absurd hds (by simp)
    | succ m =>
    rw [rg'_cons, List.map_cons, List.cons.injEq] at hds
    obtain ⟨rfl, rfl⟩ := hds
    simp only [b__law_least_1]
    mul_fits
    have big : (c + 1) * b.rls.length ≤ 70000 := Nat.le_trans (Nat.mul_le_mul (show c + 1 ≤ 70 by omega) hr) (by decide)
    refine loopS_e Rl.d (fun r ρ S' => ∃ (l : Ls) (o3 o4 : Option D), S' = S ++ [.dic (encK natD l)] ∧ ρ = [some b.d, some (.ref S.length), some (natD c), o3, o4, none] ∧ r.foldl stp l = lsts b (c + 1) ∧ l.length + r.length ≤ (c + 1) * b.rls.length ∧ ∀ x ∈ r, x ∈ b.rls) ?_ ?_ b.rls _ _ ⟨lsts b c, o3, o4, rfl, rfl, rfl, by rw [Nat.succ_mul]; omega, fun x hx => hx⟩
    · rintro x r ρ S' ⟨l, o3, o4, rfl, rfl, h1, h2, h3⟩
      refine ⟨trivial, ?_⟩
      rw [List.length_cons] at h2
      rw [List.foldl_cons] at h1
      have hx := hs x (h3 x (by simp))
      have kd : (S ++ [Ob.dic (encK natD l)])[S.length]? = some (.dic (encK natD l)) := get_end _ _
      have hit : ∀ o4 : Option D, evE (orc T k) (CE.idx (.var 3) (.lit (.int 3))) [some b.d, some (.ref S.length), some (natD c), some x.d, o4, none] (S ++ [.dic (encK natD l)]) = .ok (.tup (x.sl.map Sl.d)) (S ++ [.dic (encK natD l)]) := fun o4 => by
        simp [evE, may, idxD, Rl.d, atI, ixN, Res.bind]
      have next : stp l x = l ∨ stp l x = pS l x.nm (1 + smL l x) → ∀ o4, ∃ ρ', (Fl.nx [some b.d, some (.ref S.length), some (natD c), some x.d, o4, none] = .nx ρ' ∨ Fl.nx [some b.d, some (.ref S.length), some (natD c), some x.d, o4, none] = .ct ρ') ∧ ∃ (l' : Ls) (o3 o4 : Option D), S ++ [.dic (encK natD (stp l x))] = S ++ [.dic (encK natD l')] ∧ ρ' = [some b.d, some (.ref S.length), some (natD c), o3, o4, none] ∧ r.foldl stp l' = lsts b (c + 1) ∧ l'.length + r.length ≤ (c + 1) * b.rls.length ∧ ∀ x ∈ r, x ∈ b.rls := fun _ o4 =>
        ⟨_, .inl rfl, stp l x, _, _, rfl, rfl, h1, by have := stp_len l x; omega, fun y hy => h3 y (by simp [hy])⟩
      simp only [b__law_least_2]
      refine w_may rfl ?_
      refine w_scons (w_ite (w_tv (known_w (l := l) (sl := x.sl) rfl rfl (by simp) (by decide) (by omega) kd ?_ (hit _))))
      refine w_tru_b (w_ok (w_if (fun c1 => ?_) fun c1 => ?_))
      · have c2 : inL l x = true := c1
        refine w_scons (w_set (w_bin (w_lit (known_sum (l := l) (sl := x.sl) rfl rfl (by simp) (by decide) (by omega) kd (inL_iff.mp c2) ?_ (hit _)))))
        have en : (1 : Int) + (((x.sl.map fun s => (gS l s.nm).getD 0).sum : Nat) : Int) = ((1 + smL l x : Nat) : Int) := by
          show (1 : Int) + ((smL l x : Nat) : Int) = _
          omega
        refine v_add ?_
        rw [en]
        mul_fits
        have kin : inD (.str x.nm) (.val (.ref S.length)) (S ++ [Ob.dic (encK natD l)]) = some (gS l x.nm).isSome := in_enc kd
        have zl : (encK natD l).length < sizeLine := Nat.lt_of_lt_of_le (Nat.lt_succ_self _) (by rw [encK_len]; exact le_size (by omega))
        cases q : gS l x.nm with
        | none =>
          rw [q] at kin
          have es : stp l x = pS l x.nm (1 + smL l x) := by
            unfold stp
            rw [if_pos c2, q]
          refine w_may kin ?_
          mul_fits
          rw [set_end, pD_enc, ← es]
          exact next (.inr es) _
        | some w =>
          rw [q] at kin
          refine w_may kin ?_
          have kg : gD (encK natD l) (.inr x.nm) = some (natD w) := by rw [gD_enc, q]; rfl
          mul_fits
          refine w_ifd (fun c3 => ?_) fun c3 => ?_
          · have es : stp l x = pS l x.nm (1 + smL l x) := by
              unfold stp
              rw [if_pos c2, q]
              exact if_pos (by omega)
            mul_fits
            rw [set_end, pD_enc, ← es]
            exact next (.inr es) _
          · have es : stp l x = l := by
              unfold stp
              rw [if_pos c2, q]
              exact if_neg (by omega)
            mul_fits
            have := next (.inl es) (some (natD (1 + smL l x)))
            rw [es] at this
            exact this
      · have es : stp l x = l := if_neg (by rw [show inL l x = false from c1]; decide)
        mul_fits
        have := next (.inl es) o4
        rw [es] at this
        exact this
    · rintro ρ S' ⟨l, o3, o4, rfl, rfl, h1, h2, h3⟩
      refine ⟨trivial, ?_⟩
      rw [List.foldl_nil] at h1
      subst h1
      mul_fits
      exact ⟨_, .inl rfl, c + 1, m, _, _, _, none, by omega, rfl, rfl, rfl, by simpa using h2⟩
  · rintro ρ S' ⟨c, m, o2, o3, o4, o5, hcm, hds, rfl, rfl, hlen⟩
    refine ⟨trivial, ?_⟩
    cases m with
    | succ m => exact absurd hds (by simp [rg'_cons])
    | zero =>
    have hc : c = b.nms.length := by omega
    subst hc
    mul_fits
    simp only [b__law_least_3]
    mul_fits
    rw [gc_out (by simp [below])]
    exact w_ok h
end
/-! ### builds as trees -/
inductive Tr where
  | nd (n : Nat) (ps : List Tr)
mutual
def Tr.d : Tr → D
  | .nd n ps => .tup [natD n, .tup (Trs.d ps)]
def Trs.d : List Tr → List D
  | [] => []
  | t :: r => t.d :: Trs.d r
end
theorem trs_d : ∀ ps : List Tr, Trs.d ps = ps.map Tr.d
  | [] => rfl
  | t :: r => by rw [Trs.d, trs_d r]; rfl
theorem tr_d (n : Nat) (ps : List Tr) : (Tr.nd n ps).d = .tup [natD n, .tup (ps.map Tr.d)] := by rw [Tr.d, trs_d]
mutual
theorem pd_tr : ∀ t : Tr, Pd t.d
  | .nd n ps => by
    rw [Tr.d]
    exact ⟨trivial, pd_trs ps, trivial⟩
theorem pd_trs : ∀ ps : List Tr, belows 0 (Trs.d ps)
  | [] => trivial
  | t :: r => ⟨pd_tr t, pd_trs r⟩
end
def Tr.num : Tr → Nat
  | .nd n _ => n
def Tr.kids : Tr → List Tr
  | .nd _ ps => ps
mutual
def Tr.pre : Tr → List Tr
  | .nd n ps => .nd n ps :: pres ps
def pres : List Tr → List Tr
  | [] => []
  | t :: r => t.pre ++ pres r
end
theorem pre_eq (t : Tr) : t.pre = t :: pres t.kids := by
  cases t
  rw [Tr.pre]
  rfl
theorem pres_append : ∀ a b : List Tr, pres (a ++ b) = pres a ++ pres b
  | [], b => rfl
  | t :: r, b => by rw [List.cons_append, pres, pres, pres_append r b, List.append_assoc]
abbrev rwD (p : Nat × Nat) : D := .tup [natD p.1, natD p.2]
/-- a row of trees from its nodes in order -/
def par : List (Nat × Nat) → Option (List Tr)
  | [] => some []
  | (n, m) :: r => (par r).bind fun ts => if m ≤ ts.length then some (.nd n (ts.take m) :: ts.drop m) else none
theorem par_pre : ∀ {rows : List (Nat × Nat)} {ts : List Tr}, par rows = some ts → (pres ts).map Tr.num = rows.map (·.1)
  | [], ts, h => by cases h; rfl
  | (n, m) :: r, ts, h => by
    unfold par at h
    obtain ⟨us, h1, h2⟩ := Option.bind_eq_some_iff.mp h
    by_cases c : m ≤ us.length
    · rw [if_pos c] at h2
      cases h2
      rw [pres, Tr.pre, List.cons_append, ← pres_append, List.take_append_drop, List.map_cons, List.map_cons, par_pre h1]
      rfl
    · rw [if_neg c] at h2
      cases h2
mutual
/-- a build of a name -/
def Wf (b : Bk) (nm : Str) : Tr → Prop
  | .nd n ps => ∃ r, b.rls[n]? = some r ∧ r.nm = nm ∧ Wfs b (r.sl.map (·.nm)) ps
def Wfs (b : Bk) : List Str → List Tr → Prop
  | [], [] => True
  | x :: xs, t :: ts => Wf b x t ∧ Wfs b xs ts
  | [], _ :: _ => False
  | _ :: _, [] => False
end
theorem Wfs.len {b : Bk} : ∀ {xs : List Str} {ts : List Tr}, Wfs b xs ts → ts.length = xs.length
  | [], [], _ => rfl
  | _ :: xs, _ :: ts, h => by
    rw [Wfs] at h
    rw [List.length_cons, List.length_cons, Wfs.len h.2]
  | [], _ :: _, h => by simp [Wfs] at h
  | _ :: _, [], h => by simp [Wfs] at h
theorem Wfs.split {b : Bk} : ∀ {xs ys : List Str} {ts : List Tr}, Wfs b (xs ++ ys) ts → Wfs b xs (ts.take xs.length) ∧ Wfs b ys (ts.drop xs.length)
  | [], ys, ts, h => ⟨by simp [Wfs], h⟩
  | x :: xs, ys, [], h => by simp [Wfs] at h
  | x :: xs, ys, t :: ts, h => by
    rw [List.cons_append, Wfs] at h
    obtain ⟨h1, h2⟩ := Wfs.split h.2
    refine ⟨?_, h2⟩
    rw [List.length_cons, List.take_succ_cons, Wfs]
    exact ⟨h.1, h1⟩
mutual
theorem Wf.lt {b : Bk} : ∀ {nm : Str} (t : Tr), Wf b nm t → ∀ x ∈ t.pre, x.num < b.rls.length
  | nm, .nd n ps, h, x, hx => by
    rw [Wf] at h
    obtain ⟨r, h1, h2, h3⟩ := h
    rw [Tr.pre] at hx
    rcases List.mem_cons.mp hx with rfl | hx
    · exact (List.getElem?_eq_some_iff.mp h1).1
    · exact Wfs.lt ps h3 x hx
theorem Wfs.lt {b : Bk} : ∀ {xs : List Str} (ts : List Tr), Wfs b xs ts → ∀ x ∈ pres ts, x.num < b.rls.length
  | _, [], _, x, hx => by simp [pres] at hx
  | [], t :: ts, h, x, hx => by simp [Wfs] at h
  | _ :: _, t :: ts, h, x, hx => by
    rw [Wfs] at h
    rw [pres] at hx
    rcases List.mem_append.mp hx with hx | hx
    · exact Wf.lt t h.1 x hx
    · exact Wfs.lt ts h.2 x hx
end
/-- the numbers of a name's rules -/
def rlsOf (b : Bk) (nm : Str) : List Nat := (List.range b.rls.length).filter fun i => decide ((b.rls[i]?).map (·.nm) = some nm)
theorem mem_rlsOf {b : Bk} {nm : Str} {i : Nat} : i ∈ rlsOf b nm ↔ ∃ r, b.rls[i]? = some r ∧ r.nm = nm := by
  unfold rlsOf
  rw [List.mem_filter, List.mem_range, decide_eq_true_eq, Option.map_eq_some_iff]
  exact ⟨fun h => h.2, fun h => ⟨(List.getElem?_eq_some_iff.mp h.choose_spec.1).1, h⟩⟩
theorem rlsOf_len (b : Bk) (nm : Str) : (rlsOf b nm).length ≤ b.rls.length := by
  have := List.length_filter_le (fun i => decide ((b.rls[i]?).map (·.nm) = some nm)) (List.range b.rls.length)
  rw [List.length_range] at this
  exact this
section
variable {k : Nat} {S : Sto} {Q : D → Sto → Prop}
theorem at_rl {b : Bk} {i : Nat} (h : i < b.rls.length) : atI (b.rls.map Rl.d) (i : Int) = some (b.rls[i]).d := at_map _ _ _ h
theorem rules_w {b : Bk} {nm : Str} (hr : b.rls.length ≤ 1000) (h : Q (.ref S.length) (S ++ [.lst ((rlsOf b nm).map natD)])) : W (orc T (k + 1) n__law_rules [b.d, .str nm] S) Q := by
  refine orc_w (ρ := [some b.d, some (.str nm), none]) rfl rfl rfl ?_
  show W (evSs _ b__law_rules _ _) _
  simp only [b__law_rules]
  mul_fits
  rw [List.length_map]
  have bd : bd62 0 ∧ bd62 (b.rls.length : Int) := by unfold bd62; omega
  mul_fits
  rw [rgD0]
  refine ⟨by rw [List.length_map, List.length_range]; exact le_size (by omega), ?_⟩
  refine loopQ_f natD (fun i => decide ((b.rls[i]?).map (·.nm) = some nm)) natD (fun S' => S' = S) _ (fun i hi S' e => ?_) (fun S' e => ?_) _ rfl
  · subst e
    refine ⟨trivial, ?_⟩
    have hi := List.mem_range.mp hi
    have k1 := at_rl hi
    have e : (b.rls[i]?).map (·.nm) = some (b.rls[i]).nm := by rw [List.getElem?_eq_getElem hi]; rfl
    have e2 : decide ((b.rls[i]?).map (·.nm) = some nm) = decide ((b.rls[i]).nm = nm) := by
      rw [e]
      simp
    mul_fits
    rw [e2]
    refine w_ifd (fun c => ?_) fun c => ?_
    · mul_fits
      exact ⟨by rw [if_pos (decide_eq_true c)], rfl⟩
    · mul_fits
      exact ⟨by rw [if_neg (by simpa using c)], rfl⟩
  · subst e
    refine ⟨trivial, ?_⟩
    mul_fits
    rw [gc_out (by simp [below])]
    exact w_ok h
end
/-! ### rows joined to a tree -/
section
variable {k : Nat} {S : Sto} {Q : D → Sto → Prop}
theorem pop_rev {ts : List Tr} {t : Tr} : ((t :: ts).reverse.map Tr.d)[((t :: ts).reverse.map Tr.d).length - 1]? = some t.d ∧ ((t :: ts).reverse.map Tr.d).dropLast = ts.reverse.map Tr.d := by
  rw [List.reverse_cons, List.map_append]
  simp
theorem joined_w {bs : Nat} {rows : List (Nat × Nat)} {t : Tr} (hb : S[bs]? = some (.lst (rows.map rwD))) (hz : rows.length ≤ 50000) (hp : par rows = some [t]) (hm : ∀ p ∈ rows, p.2 ≤ 50000) (h : Q t.d S) : W (orc T (k + 1) n__law_joined [.ref bs] S) Q := by
  refine orc_w (ρ := [some (.ref bs), none, none, none, none, none, none]) rfl rfl rfl ?_
  show W (evSs _ b__law_joined _ _) _
  simp only [b__law_joined]
  have kb : ∀ g : Sto, (S ++ g)[bs]? = some (.lst (rows.map rwD)) := fun g => get_pre hb
  have sb : ∀ g : Sto, sqOf (S ++ g) (.val (.ref bs)) = some (rows.map rwD) := fun g => by simp only [sqOf, lsOf, kb]
  have sb1 := sb [.lst []]
  mul_fits
  rw [List.length_map]
  have bd : bd62 0 ∧ bd62 (rows.length : Int) := by unfold bd62; omega
  mul_fits
  rw [rgD_0]
  refine loopS_w (fun ds ρ S' => ∃ (c m : Nat) (ts : List Tr) (g : Sto) (o2 o3 o4 o5 : Option D), c + m = rows.length ∧ ds = (List.range' c m).map natD ∧ S' = S ++ [.lst (ts.reverse.map Tr.d)] ++ g ∧ ρ = [some (.ref bs), some (.ref S.length), o2, o3, o4, o5, none] ∧ par (rows.drop m) = some ts) ?_ ?_ _ _ _ ⟨0, rows.length, [], [], _, _, _, _, by omega, rfl, by simp, rfl, by rw [List.drop_length]; rfl⟩
  · rintro d ds ρ S' ⟨c, m, ts, g, o2, o3, o4, o5, hcm, hds, rfl, rfl, h1⟩
    refine ⟨trivial, ?_⟩
    cases m with
    | zero => exact absurd hds (by simp)
    | succ m =>
    rw [rg'_cons, List.map_cons, List.cons.injEq] at hds
    obtain ⟨rfl, rfl⟩ := hds
    have hm' : m < rows.length := by omega
    obtain ⟨p, hp1⟩ : ∃ p, rows[m]? = some p := ⟨_, List.getElem?_eq_getElem hm'⟩
    have hpm := hm p (List.mem_of_getElem? hp1)
    have ed : rows.drop m = p :: rows.drop (m + 1) := by
      rw [List.drop_eq_getElem_cons hm']
      congr 1
      exact (List.getElem?_eq_some_iff.mp hp1).2
    have hpar : ∃ us, par (p :: rows.drop (m + 1)) = some us := by
      have key : ∀ (l : List (Nat × Nat)) (r : List (Nat × Nat)), (∃ us, par (l ++ r) = some us) → ∃ us, par r = some us := by
        intro l
        induction l with
        | nil => intro r h; exact h
        | cons x l ih =>
          rintro r ⟨us, hu⟩
          rw [List.cons_append, par] at hu
          obtain ⟨vs, hv, _⟩ := Option.bind_eq_some_iff.mp hu
          exact ih r ⟨vs, hv⟩
      refine key (rows.take m) _ ⟨[t], ?_⟩
      rw [← ed, List.take_append_drop]
      exact hp
    obtain ⟨us, hu⟩ := hpar
    have hu' := hu
    rw [par, h1] at hu
    have hle : p.2 ≤ ts.length := by
      by_cases z : p.2 ≤ ts.length
      · exact z
      · rw [Option.bind_some, if_neg z] at hu
        cases hu
    rw [Option.bind_some, if_pos hle] at hu
    have eus : us = .nd p.1 (ts.take p.2) :: ts.drop p.2 := (Option.some.inj hu).symm
    have sb2 := sb ([.lst (ts.reverse.map Tr.d)] ++ g)
    rw [← List.append_assoc] at sb2
    have kb2 := kb ([.lst (ts.reverse.map Tr.d)] ++ g)
    rw [← List.append_assoc] at kb2
    have ei : ((rows.map rwD).length : Int) - 1 - (c : Int) = (m : Int) := by rw [List.length_map]; omega
    have ka : atI (rows.map rwD) (m : Int) = some (rwD p) := by
      rw [at_map _ _ _ hm']
      congr 1
      rw [(List.getElem?_eq_some_iff.mp hp1).2]
    simp only [b__law_joined_1]
    mul_fits
    rw [ei]
    mul_fits
    have bd2 : bd62 0 ∧ bd62 (p.2 : Int) := by unfold bd62; omega
    mul_fits
    rw [rgD0]
    refine ⟨by rw [List.length_map, List.length_range]; exact le_size (by omega), ?_⟩
    refine loopQ_w (fun ds r S' => ∃ j, ds.length + j = p.2 ∧ r = (ts.take j).map Tr.d ∧ S' = S ++ [.lst ((ts.drop j).reverse.map Tr.d)] ++ g) ?_ ?_ _ _ ⟨0, by simp, by simp, by simp⟩
    · rintro d ds r S' ⟨j, j1, rfl, rfl⟩
      refine ⟨trivial, ?_⟩
      rw [List.length_cons] at j1
      have hj : j < ts.length := by omega
      have ej : ts.drop j = ts[j] :: ts.drop (j + 1) := List.drop_eq_getElem_cons hj
      obtain ⟨q1, q2⟩ := pop_rev (ts := ts.drop (j + 1)) (t := ts[j])
      have kl : (S ++ [.lst ((ts.drop j).reverse.map Tr.d)] ++ g)[S.length]? = some (.lst ((ts.drop j).reverse.map Tr.d)) := get_mid _ _ _
      rw [ej] at kl ⊢
      mul_fits
      refine v_pop kl q1 ?_
      rw [q2, set_mid]
      mul_fits
      refine ⟨j + 1, by omega, ?_, rfl⟩
      rw [List.take_succ_eq_append_getElem hj, List.map_append]
      rfl
    · rintro r S' ⟨j, j1, rfl, rfl⟩
      refine ⟨trivial, ?_⟩
      have hj : j = p.2 := by simpa using j1
      subst hj
      mul_fits
      have kl : ∀ g2, (S ++ [.lst ((ts.drop p.2).reverse.map Tr.d)] ++ g ++ g2)[S.length]? = some (.lst ((ts.drop p.2).reverse.map Tr.d)) := fun g2 => by
        rw [List.append_assoc]
        exact get_mid _ _ _
      have ge := get_end (S ++ [.lst ((ts.drop p.2).reverse.map Tr.d)] ++ g) (.lst ((ts.take p.2).map Tr.d))
      refine w_withL (kl _) ?_
      mul_fits
      have sq : sqOf (S ++ [Ob.lst ((ts.drop p.2).reverse.map Tr.d)] ++ g ++ [Ob.lst ((ts.take p.2).map Tr.d)]) (.val (.ref (S ++ [Ob.lst ((ts.drop p.2).reverse.map Tr.d)] ++ g).length)) = some ((ts.take p.2).map Tr.d) := by simp only [sqOf, lsOf, ge]
      mul_fits
      have tl : ts.length ≤ rows.length := by
        have key : ∀ (l : List (Nat × Nat)) (us : List Tr), par l = some us → us.length ≤ l.length := by
          intro l
          induction l with
          | nil => intro us h; cases h; simp
          | cons x l ih =>
            intro us h
            rw [par] at h
            obtain ⟨vs, hv, h⟩ := Option.bind_eq_some_iff.mp h
            have := ih vs hv
            by_cases z : x.2 ≤ vs.length
            · rw [if_pos z] at h
              cases h
              simp
              omega
            · rw [if_neg z] at h
              cases h
        have := key _ _ h1
        rw [List.length_drop] at this
        omega
      refine v_app (kl _) (Nat.lt_of_lt_of_le (Nat.lt_succ_self _) (by rw [List.length_map, List.length_reverse, List.length_drop]; exact le_size (by omega))) ?_
      rw [List.append_assoc (S ++ _), set_mid]
      mul_fits
      refine ⟨_, .inl rfl, c + 1, m, us, g ++ [Ob.lst ((ts.take p.2).map Tr.d)], _, _, _, _, by omega, rfl, ?_, rfl, ?_⟩
      · rw [eus, List.reverse_cons, List.map_append, List.map_cons, tr_d]
        rfl
      · rw [ed]
        exact hu'
  · rintro ρ S' ⟨c, m, ts, g, o2, o3, o4, o5, hcm, hds, rfl, rfl, h1⟩
    refine ⟨trivial, ?_⟩
    cases m with
    | succ m => exact absurd hds (by simp [rg'_cons])
    | zero =>
    rw [List.drop_zero, hp] at h1
    cases h1
    have kl : (S ++ [.lst (([t] : List Tr).reverse.map Tr.d)] ++ g)[S.length]? = some (.lst [t.d]) := get_mid _ _ _
    mul_fits
    simp only [b__law_joined_2]
    mul_fits
    rw [List.append_assoc, gc_app ((pd_tr t).b _)]
    exact w_ok h
end
/-! ### a build is drawn -/
def sumL (l : Ls) (w : List Str) : Nat := (w.map fun s => (gS l s).getD 0).sum
theorem sumL_sl (l : Ls) (r : Rl) : sumL l (r.sl.map (·.nm)) = smL l r := by
  unfold sumL smL
  rw [List.map_map]
  rfl
theorem sumL_app (l : Ls) (a b : List Str) : sumL l (a ++ b) = sumL l a + sumL l b := by
  unfold sumL
  rw [List.map_append, List.sum_append]
theorem sumL_len {b : Bk} {l : Ls} (g : GoodL b l) : ∀ {w : List Str}, (∀ s ∈ w, ∃ v, gS l s = some v) → w.length ≤ sumL l w
  | [], _ => Nat.zero_le _
  | s :: w, h => by
    have ih := sumL_len g (w := w) fun x hx => h x (by simp [hx])
    obtain ⟨v, hv⟩ := h s (by simp)
    have := good_pos g hv
    have e : sumL l (s :: w) = v + sumL l w := by
      unfold sumL
      rw [List.map_cons, List.sum_cons, hv]
      rfl
    rw [e, List.length_cons]
    omega
section
variable {k : Nat} {R : Sto} {Q : D → Sto → Prop} {d : DS} {m : Int}
/-- the store of a build that is drawn -/
abbrev bst (d : DS) (A : Sto) (rows : List (Nat × Nat)) (wt : List Str) (g : Sto) : Sto := d.st (A ++ [.lst (rows.map rwD)] ++ ([.lst (wt.reverse.map D.str)] ++ g))
variable {A g : Sto} {rows : List (Nat × Nat)} {wt : List Str}
theorem bst_r : (bst d A rows wt g)[A.length + 2]? = some (.lst (rows.map rwD)) := st_mid
theorem bst_w : (bst d A rows wt g)[A.length + 1 + 2]? = some (.lst (wt.reverse.map D.str)) := by
  show (d.st _)[_]? = _
  rw [st_get, ← List.append_assoc, show A.length + 1 = (A ++ [Ob.lst (rows.map rwD)]).length by simp]
  exact get_mid _ _ _
theorem bst_sr {l : List D} {rows' : List (Nat × Nat)} (h : l = rows'.map rwD) : (bst d A rows wt g).set (A.length + 2) (.lst l) = bst d A rows' wt g := by
  subst h
  exact st_set_mid
theorem bst_sw {l : List D} {wt' : List Str} (h : l = wt'.reverse.map D.str) : (bst d A rows wt g).set (A.length + 1 + 2) (.lst l) = bst d A rows wt' g := by
  subst h
  show (d.st _).set _ _ = d.st _
  rw [← List.append_assoc, show A.length + 1 = (A ++ [Ob.lst (rows.map rwD)]).length by simp, st_set_mid, List.append_assoc]
theorem bst_d {a : Nat} {o : Ob} (h : A[a]? = some o) : (bst d A rows wt g)[a + 2]? = some o := by
  show (d.st _)[_]? = _
  rw [st_get, List.append_assoc]
  exact get_pre h
theorem bst_app {g2 : Sto} : bst d A rows wt g ++ g2 = bst d A rows wt (g ++ g2) := by
  show d.st _ ++ g2 = d.st _
  rw [st_app]
  simp
theorem bst_g {i : Nat} {o : Ob} (h : g[i]? = some o) : (bst d A rows wt g)[A.length + 2 + i + 2]? = some o := by
  show (d.st _)[_]? = _
  rw [st_get, ← List.append_assoc, List.getElem?_append_right (by simp)]
  rw [← h]
  congr 1
  simp
theorem bst_len : (bst d A rows wt g).length = A.length + 2 + g.length + 2 := by
  show (d.st _).length = _
  rw [st_len]
  simp
  omega
/-- what is open at a name -/
abbrev opD (p : Int × Nat) : D := .tup [.int p.1, natD p.2]
theorem build_w {b : Bk} {nm : Str} {most : Nat} (hz : b.nms.length ≤ 70) (hr : b.rls.length ≤ 900) (hs : ∀ r ∈ b.rls, r.sl.length ≤ 3) (hL : ∀ v, gS (lstB b) nm = some v → v ≤ 1000) (hmost : most ≤ 1000) (h0 : gS (lstB b) nm = none → ∀ d' : DS, Q .non (d'.st R))
    (h : ∀ (t : Tr) (d' : DS), Wf b nm t → (∃ v, gS (lstB b) nm = some v ∧ t.pre.length ≤ max v most) → Q t.d (d'.st R)) : W (orc T (k + 3) n__law_build [.ref 1, b.d, .str nm, natD most] (d.st R)) Q := by
  refine orc_w (ρ := [some (.ref 1), some b.d, some (.str nm), some (natD most), none, none, none, none, none, none, none, none, none, none, none, none]) rfl rfl rfl ?_
  show W (evSs _ b__law_build _ _) _
  simp only [b__law_build]
  mul_fits
  refine least_w hz (by omega) hs ?_
  simp only [st_len, st_app]
  have kd : ∀ (d : DS) (g : Sto), (d.st (R ++ [.dic (encK natD (lstB b))] ++ g))[R.length + 2]? = some (.dic (encK natD (lstB b))) := fun d g => st_mid
  have kd0 : (d.st (R ++ [.dic (encK natD (lstB b))]))[R.length + 2]? = some (.dic (encK natD (lstB b))) := by
    have := kd d []
    rwa [List.append_nil] at this
  have gd := lstB_good b
  generalize hL0 : lstB b = L at *
  mul_fits
  have kin : inD (.str nm) (.val (.ref (R.length + 2))) (d.st (R ++ [Ob.dic (encK natD L)])) = some (gS L nm).isSome := in_enc kd0
  refine w_may kin ?_
  cases hv : gS L nm with
  | none =>
    mul_fits
    refine gc_st2 trivial (h0 hv d)
  | some v =>
  have hv1 := hL v hv
  mul_fits
  simp only [b__law_build_1]
  have kg : gD (encK natD L) (.inr nm) = some (natD v) := by rw [gD_enc, hv]; rfl
  mul_fits
  simp only [st_len, st_app]
  generalize hA : R ++ [Ob.dic (encK natD L)] = A at *
  have kA : A[R.length]? = some (.dic (encK natD L)) := by rw [← hA]; exact get_end _ _
  have hAl : A.length = R.length + 1 := by rw [← hA]; simp
  have spare0 : (if (most : Int) - (v : Int) > 0 then (most : Int) - (v : Int) else 0) = ((max v most - v : Nat) : Int) := by
    split <;> omega
  rw [spare0]
  have e0 : d.st (A ++ [Ob.lst []] ++ [Ob.lst [D.str nm]]) = bst d A [] [nm] [] := rfl
  have e1 : (A ++ [Ob.lst []]).length + 2 = A.length + 1 + 2 := by simp
  rw [e0, e1]
  mul_fits
  rw [show rgD 0 4000 = (List.range 4000).map natD from rgD0 4000]
  refine loopS_re natD (fun r ρ S => ∃ (rows : List (Nat × Nat)) (wt : List Str) (g : Sto) (sp : Nat) (o8 o9 o10 o11 o12 o13 o14 : Option D) (d' : DS), S = bst d' A rows wt g ∧ ρ = [some (.ref 1), some b.d, some (.str nm), some (natD most), some (.ref (R.length + 2)), some (natD sp), some (.ref (A.length + 2)), some (.ref (A.length + 1 + 2)), o8, o9, o10, o11, o12, o13, o14, none] ∧ rows.length + r.length = 4000 ∧ (∀ s ∈ wt, ∃ v, gS L s = some v) ∧ rows.length + sumL L wt + sp = max v most ∧ (∀ rows' ts, par rows' = some ts → Wfs b wt ts → ∃ t, par (rows ++ rows') = some [t] ∧ Wf b nm t) ∧ (∀ p ∈ rows, p.2 ≤ 3)) ?_ ?_ _ _ _ ⟨[], [nm], [], max v most - v, _, _, _, _, _, _, _, d, rfl, rfl, by simp, ?_, ?_, ?_, by simp⟩
  rotate_left
  · rintro ρ S ⟨rows, wt, g, sp, o8, o9, o10, o11, o12, o13, o14, d', rfl, rfl, i1, i2, i3, i4, i5⟩
    exfalso
    simp at i1
    omega
  · intro s hs
    simp at hs
    subst hs
    exact ⟨v, hv⟩
  · have : sumL L [nm] = v := by simp [sumL, hv]
    rw [this]
    simp
    omega
  · intro rows' ts h1 h2
    match ts, h2 with
    | [t], h2 =>
      rw [Wfs] at h2
      exact ⟨t, h1, h2.1⟩
    | [], h2 => simp [Wfs] at h2
    | _ :: _ :: _, h2 => simp [Wfs] at h2
  rintro q r ρ S ⟨rows, wt, g, sp, o8, o9, o10, o11, o12, o13, o14, d', rfl, rfl, i1, i2, i3, i4, i5⟩
  refine ⟨trivial, ?_⟩
  rw [List.length_cons] at i1
  have sqw : sqOf (bst d' A rows wt g) (.val (.ref (A.length + 1 + 2))) = some (wt.reverse.map D.str) := by simp only [sqOf, lsOf, bst_w]
  have wl := sumL_len gd i2
  simp only [b__law_build_2]
  mul_fits
  cases wt with
  | nil =>
    refine w_ifd (fun c => ?_) fun c => (c (by simp)).elim
    obtain ⟨t, ht, hw⟩ := i4 [] [] rfl (by simp [Wfs])
    rw [List.append_nil] at ht
    mul_fits
    refine joined_w bst_r (by omega) ht (fun p hp => by have := i5 p hp; omega) ?_
    mul_fits
    have e : bst d' A rows [] g = d'.st (R ++ ([Ob.dic (encK natD L)] ++ ([.lst (rows.map rwD)] ++ ([.lst (([] : List Str).reverse.map D.str)] ++ g)))) := by
      show d'.st _ = d'.st _
      rw [← hA]
      simp
    rw [e]
    refine gc_st2 ((pd_tr t).b _) (h t d' hw ⟨v, hv, ?_⟩)
    have := congrArg List.length (par_pre ht)
    rw [List.length_map, List.length_map] at this
    rw [show t.pre = pres [t] by simp [pres], this]
    omega
  | cons due w =>
  refine w_ifd (fun c => ?_) fun c => ?_
  · exfalso
    simp at c
    omega
  mul_fits
  simp only [b__law_build_3]
  obtain ⟨lv, hlv⟩ := i2 due (by simp)
  have i2' : ∀ s ∈ w, ∃ v, gS L s = some v := fun s hs => i2 s (by simp [hs])
  have es : sumL L (due :: w) = lv + sumL L w := by
    unfold sumL
    rw [List.map_cons, List.sum_cons, hlv]
    rfl
  have pw : ((due :: w).reverse.map D.str)[((due :: w).reverse.map D.str).length - 1]? = some (.str due) ∧ ((due :: w).reverse.map D.str).dropLast = w.reverse.map D.str := by
    rw [List.reverse_cons, List.map_append]
    simp
  mul_fits
  refine v_pop bst_w pw.1 ?_
  rw [bst_sw (wt' := w) pw.2]
  mul_fits
  rw [bst_app, bst_len]
  refine rules_w (by omega) ?_
  rw [bst_app, bst_len]
  have eg : g ++ [Ob.lst []] ++ [Ob.lst ((rlsOf b due).map natD)] = g ++ [Ob.lst (([] : List (Int × Nat)).map opD)] ++ [Ob.lst ((rlsOf b due).map natD)] := rfl
  rw [eg]
  have gr : ∀ op : List (Int × Nat), (g ++ [Ob.lst (op.map opD)] ++ [Ob.lst ((rlsOf b due).map natD)])[(g ++ [Ob.lst []]).length]? = some (.lst ((rlsOf b due).map natD)) := fun op => by
    rw [show (g ++ [Ob.lst []]).length = (g ++ [Ob.lst (op.map opD)]).length by simp]
    exact get_end _ _
  have go : ∀ op : List (Int × Nat), (g ++ [Ob.lst (op.map opD)] ++ [Ob.lst ((rlsOf b due).map natD)])[g.length]? = some (.lst (op.map opD)) := fun op => get_mid _ _ _
  generalize hi2 : (g ++ [Ob.lst []]).length = j2 at gr ⊢
  have kr : ∀ (d : DS) (op : List (Int × Nat)), (bst d A rows w (g ++ [Ob.lst (op.map opD)] ++ [Ob.lst ((rlsOf b due).map natD)]))[A.length + 2 + j2 + 2]? = some (.lst ((rlsOf b due).map natD)) := fun d op => bst_g (gr op)
  have ko : ∀ (d : DS) (op : List (Int × Nat)), (bst d A rows w (g ++ [Ob.lst (op.map opD)] ++ [Ob.lst ((rlsOf b due).map natD)]))[A.length + 2 + g.length + 2]? = some (.lst (op.map opD)) := fun d op => bst_g (go op)
  have itr : itOf (.val (.ref (A.length + 2 + j2 + 2))) (bst d' A rows w (g ++ [Ob.lst (([] : List (Int × Nat)).map opD)] ++ [Ob.lst ((rlsOf b due).map natD)])) = some ⟨(rlsOf b due).map natD, some (A.length + 2 + j2 + 2)⟩ := by
    simp only [itOf, sqOf, lsOf, kr, Option.map_some]
  obtain ⟨r0, hr0, hn0, hin0, hle0⟩ := gd due lv hlv
  obtain ⟨n0, hn0'⟩ := List.mem_iff_getElem?.mp hr0
  have hmem0 : n0 ∈ rlsOf b due := mem_rlsOf.mpr ⟨r0, hn0', hn0⟩
  have rll := rlsOf_len b due
  mul_fits
  refine w_may itr ?_
  mul_fits
  refine loopS_e natD (fun rest ρ S => ∃ (op : List (Int × Nat)) (o11 o12 o13 : Option D), S = bst d' A rows w (g ++ [Ob.lst (op.map opD)] ++ [Ob.lst ((rlsOf b due).map natD)]) ∧ ρ = [some (.ref 1), some b.d, some (.str nm), some (natD most), some (.ref (R.length + 2)), some (natD sp), some (.ref (A.length + 2)), some (.ref (A.length + 1 + 2)), some (natD q), some (.str due), some (.ref (A.length + 2 + g.length + 2)), o11, o12, o13, o14, none] ∧ op.length + rest.length ≤ (rlsOf b due).length ∧ (∀ n ∈ rest, n ∈ rlsOf b due) ∧ (n0 ∈ rest ∨ op ≠ []) ∧ (∀ x ∈ op, ∃ r, b.rls[x.2]? = some r ∧ r.nm = due ∧ inL L r = true ∧ x.1 = 1 + (smL L r : Int) - (lv : Int) ∧ x.1 ≤ (sp : Int))) ?_ ?_ (rlsOf b due) _ _ ⟨[], o11, o12, o13, rfl, rfl, by simp, fun n hn => hn, .inl hmem0, by simp⟩
  · rintro n rest ρ S ⟨op, o11, o12, o13, rfl, rfl, p1, p2, p3, p4⟩
    refine ⟨kr _ _, ?_⟩
    rw [List.length_cons] at p1
    obtain ⟨rr, hrr, hrn⟩ := mem_rlsOf.mp (p2 n (by simp))
    have hn : n < b.rls.length := (List.getElem?_eq_some_iff.mp hrr).1
    have hrr2 : b.rls[n] = rr := (List.getElem?_eq_some_iff.mp hrr).2
    have hsl := hs rr (List.mem_of_getElem? hrr)
    have k1 := at_rl hn
    rw [hrr2] at k1
    have kdd : ∀ (d : DS) (op : List (Int × Nat)), (bst d A rows w (g ++ [Ob.lst (op.map opD)] ++ [Ob.lst ((rlsOf b due).map natD)]))[R.length + 2]? = some (.dic (encK natD L)) := fun d op => bst_d kA
    have kdx := kdd d' op
    have kox := ko d' op
    have hit : ∀ o13 : Option D, evE (orc T (k + 2)) (CE.var 12) [some (.ref 1), some b.d, some (.str nm), some (natD most), some (.ref (R.length + 2)), some (natD sp), some (.ref (A.length + 2)), some (.ref (A.length + 1 + 2)), some (natD q), some (.str due), some (.ref (A.length + 2 + g.length + 2)), some (natD n), some (.tup (rr.sl.map Sl.d)), o13, o14, none] (bst d' A rows w (g ++ [Ob.lst (op.map opD)] ++ [Ob.lst ((rlsOf b due).map natD)])) = .ok (.tup (rr.sl.map Sl.d)) (bst d' A rows w (g ++ [Ob.lst (op.map opD)] ++ [Ob.lst ((rlsOf b due).map natD)])) := fun o13 => by
      rw [evE]
      rfl
    simp only [b__law_build_4]
    refine w_may rfl ?_
    refine w_scons (w_set (W_mono (Q := fun x S' => x = .tup (rr.sl.map Sl.d) ∧ S' = bst d' A rows w (g ++ [Ob.lst (op.map opD)] ++ [Ob.lst ((rlsOf b due).map natD)])) ?_ ?_))
    · mul_fits
      exact ⟨rfl, rfl⟩
    rintro _ _ ⟨rfl, rfl⟩
    refine w_nx (w_scons (w_ite (w_tv (known_w (l := L) (sl := rr.sl) rfl rfl (by simp) (by decide) (by omega) kdx ?_ (hit _)))))
    refine w_tru_b (w_ok (w_if (fun c1 => ?_) fun c1 => ?_))
    · have c2 : inL L rr = true := c1
      refine w_scons (w_set (w_bin (w_bin (w_lit (known_sum (l := L) (sl := rr.sl) rfl rfl (by simp) (by decide) (by omega) kdx (inL_iff.mp c2) ?_ (hit _))))))
      have kgd : gD (encK natD L) (.inr due) = some (natD lv) := by rw [gD_enc, hlv]; rfl
      have esm : (((rr.sl.map fun s => (gS L s.nm).getD 0).sum : Nat) : Int) = (smL L rr : Int) := rfl
      rw [show natD (rr.sl.map fun s => (gS L s.nm).getD 0).sum = natD (smL L rr) from rfl]
      mul_fits
      refine w_ifd (fun c3 => ?_) fun c3 => ?_
      · mul_fits
        refine v_app kox (Nat.lt_of_lt_of_le (Nat.lt_succ_self _) (by rw [List.length_map]; exact le_size (by omega))) ?_
        have sset : (bst d' A rows w (g ++ [Ob.lst (op.map opD)] ++ [Ob.lst ((rlsOf b due).map natD)])).set (A.length + 2 + g.length + 2) (.lst (op.map opD ++ [.tup [.int (1 + (smL L rr : Int) - (lv : Int)), natD n]])) = bst d' A rows w (g ++ [Ob.lst ((op ++ [(1 + (smL L rr : Int) - (lv : Int), n)]).map opD)] ++ [Ob.lst ((rlsOf b due).map natD)]) := by
          have e3 : ∀ x : List D, bst d' A rows w (g ++ [Ob.lst x] ++ [Ob.lst ((rlsOf b due).map natD)]) = d'.st ((A ++ [.lst (rows.map rwD)] ++ ([.lst (w.reverse.map D.str)] ++ g)) ++ [Ob.lst x] ++ [Ob.lst ((rlsOf b due).map natD)]) := fun x => by
            show d'.st _ = d'.st _
            simp
          rw [e3, e3, show A.length + 2 + g.length = (A ++ [Ob.lst (rows.map rwD)] ++ ([Ob.lst (w.reverse.map D.str)] ++ g)).length by simp; omega, st_set_mid, List.map_append]
          rfl
        rw [sset]
        mul_fits
        refine ⟨_, .inl rfl, op ++ [(1 + (smL L rr : Int) - (lv : Int), n)], _, _, _, rfl, rfl, by simp; omega, fun x hx => p2 x (by simp [hx]), .inr (by simp), fun x hx => ?_⟩
        rcases List.mem_append.mp hx with hx | hx
        · exact p4 x hx
        · simp at hx
          subst hx
          exact ⟨rr, hrr, hrn, c2, rfl, c3⟩
      · mul_fits
        refine ⟨_, .inl rfl, op, _, _, _, rfl, rfl, by omega, fun x hx => p2 x (by simp [hx]), ?_, p4⟩
        rcases p3 with p3 | p3
        · rcases List.mem_cons.mp p3 with e | p3
          · exfalso
            rw [e, hrr] at hn0'
            cases hn0'
            omega
          · exact .inl p3
        · exact .inr p3
    · mul_fits
      refine ⟨_, .inl rfl, op, _, _, _, rfl, rfl, by omega, fun x hx => p2 x (by simp [hx]), ?_, p4⟩
      rcases p3 with p3 | p3
      · rcases List.mem_cons.mp p3 with e | p3
        · exfalso
          rw [e, hrr] at hn0'
          have e9 : rr = r0 := Option.some.inj hn0'
          have : inL L rr = false := c1
          rw [e9, hin0] at this
          cases this
        · exact .inl p3
      · exact .inr p3
  rintro ρ S ⟨op, o11, o12, o13, rfl, rfl, p1, p2, p3, p4⟩
  refine ⟨kr _ _, ?_⟩
  have p3 : op ≠ [] := p3.resolve_left (by simp)
  have opl : 0 < op.length := List.length_pos_iff.mpr p3
  have p1 : op.length ≤ (rlsOf b due).length := by simpa using p1
  mul_fits
  simp only [b__law_build_5]
  mul_fits
  have hrow : (A ++ [.lst (rows.map rwD)] ++ ([.lst (w.reverse.map D.str)] ++ (g ++ [Ob.lst (op.map opD)] ++ [Ob.lst ((rlsOf b due).map natD)])))[A.length + 2 + g.length]? = some (.lst (op.map opD)) := ko d' op
  refine pick_w (row := op.map opD) (by rw [List.length_map]; exact opl) (by rw [List.length_map]; omega) hrow fun x hx d2 => ?_
  obtain ⟨⟨mo, n⟩, hop, rfl⟩ := List.mem_map.mp hx
  obtain ⟨rr, hrr, hrn, hin, hmo, hsp⟩ := p4 _ hop
  simp only at hrr hmo hsp
  have hn : n < b.rls.length := (List.getElem?_eq_some_iff.mp hrr).1
  have hrr2 : b.rls[n] = rr := (List.getElem?_eq_some_iff.mp hrr).2
  have hsl := hs rr (List.mem_of_getElem? hrr)
  have k1 := at_rl hn
  rw [hrr2] at k1
  generalize g ++ [Ob.lst (op.map opD)] ++ [Ob.lst ((rlsOf b due).map natD)] = g2
  have kr2 : (d2.st (A ++ [.lst (rows.map rwD)] ++ ([.lst (w.reverse.map D.str)] ++ g2)))[A.length + 2]? = some (.lst (rows.map rwD)) := bst_r
  mul_fits
  refine v_app kr2 (Nat.lt_of_lt_of_le (Nat.lt_succ_self _) (by rw [List.length_map]; exact le_size (by omega))) ?_
  rw [show (d2.st (A ++ [.lst (rows.map rwD)] ++ ([.lst (w.reverse.map D.str)] ++ g2))) = bst d2 A rows w g2 from rfl, bst_sr (rows' := rows ++ [(n, rr.sl.length)]) (by rw [List.map_append, List.length_map]; rfl)]
  have bd2 : bd62 0 ∧ bd62 ((rr.sl.map Sl.d).length : Int) := by rw [List.length_map]; unfold bd62; omega
  mul_fits
  rw [rgD_0, List.length_map]
  have spn : ∃ sp' : Nat, (sp : Int) - mo = (sp' : Int) := Int.eq_ofNat_of_zero_le (by omega)
  obtain ⟨sp', esp⟩ := spn
  rw [esp]
  have hmo2 : (sp' : Int) = (sp : Int) - (1 + (smL L rr : Int) - (lv : Int)) := by rw [← hmo]; exact esp.symm
  have nl : (rr.sl.map (·.nm)).length = rr.sl.length := List.length_map _
  have ns_in : ∀ s ∈ rr.sl.map (·.nm), ∃ v, gS L s = some v := fun s hs => by
    obtain ⟨x, hx, rfl⟩ := List.mem_map.mp hs
    exact inL_iff.mp hin x hx
  refine loopS_w (fun ds ρ S' => ∃ (c m : Nat) (o14 : Option D), c + m = rr.sl.length ∧ ds = (List.range' c m).map natD ∧ S' = bst d2 A (rows ++ [(n, rr.sl.length)]) (((rr.sl.map (·.nm)).reverse.take c).reverse ++ w) g2 ∧ ρ = [some (.ref 1), some b.d, some (.str nm), some (natD most), some (.ref (R.length + 2)), some (natD sp'), some (.ref (A.length + 2)), some (.ref (A.length + 1 + 2)), some (natD q), some (.str due), some (.ref (A.length + 2 + g.length + 2)), some (natD n), some (.tup (rr.sl.map Sl.d)), some (.int mo), o14, none]) ?_ ?_ _ _ _ ⟨0, rr.sl.length, o14, by omega, rfl, by simp, rfl⟩
  · rintro e ds ρ S' ⟨c, m, o14, hcm, hds, rfl, rfl⟩
    refine ⟨trivial, ?_⟩
    cases m with
    | zero => exact absurd hds (by simp)
    | succ m =>
    rw [rg'_cons, List.map_cons, List.cons.injEq] at hds
    obtain ⟨rfl, rfl⟩ := hds
    have hm' : m < rr.sl.length := by omega
    have ei : ((rr.sl.map Sl.d).length : Int) - 1 - (c : Int) = (m : Int) := by rw [List.length_map]; omega
    have ka : atI (rr.sl.map Sl.d) (m : Int) = some (rr.sl[m]).d := at_map _ _ _ hm'
    have kw := bst_w (d := d2) (A := A) (rows := rows ++ [(n, rr.sl.length)]) (wt := ((rr.sl.map (·.nm)).reverse.take c).reverse ++ w) (g := g2)
    simp only [b__law_build_6]
    mul_fits
    rw [ei]
    mul_fits
    have wl2 : w.length + 1 ≤ max v most := by
      rw [List.length_cons] at wl
      omega
    refine v_app kw (Nat.lt_of_lt_of_le (Nat.lt_succ_self _) (by
      rw [List.length_map, List.length_reverse, List.length_append, List.length_reverse, List.length_take]
      exact le_size (by omega))) ?_
    rw [bst_sw (wt' := ((rr.sl.map (·.nm)).reverse.take (c + 1)).reverse ++ w) (by
      have e5 : (rr.sl.map (·.nm)).reverse.take (c + 1) = (rr.sl.map (·.nm)).reverse.take c ++ [(rr.sl[m]).nm] := by
        have hc : c < (rr.sl.map (·.nm)).reverse.length := by rw [List.length_reverse, nl]; omega
        rw [List.take_succ_eq_append_getElem hc, List.getElem_reverse, List.getElem_map]
        congr 4
        rw [nl]
        omega
      rw [e5]
      simp)]
    mul_fits
    exact ⟨_, .inl rfl, c + 1, m, _, by omega, rfl, rfl, rfl⟩
  rintro ρ S' ⟨c, m, o14, hcm, hds, rfl, rfl⟩
  refine ⟨trivial, ?_⟩
  cases m with
  | succ m => exact absurd hds (by simp [rg'_cons])
  | zero =>
  have hc : c = (rr.sl.map (·.nm)).reverse.length := by rw [List.length_reverse, nl]; omega
  rw [hc, List.take_length, List.reverse_reverse]
  mul_fits
  refine ⟨rows ++ [(n, rr.sl.length)], rr.sl.map (·.nm) ++ w, g2, sp', _, _, _, _, _, _, _, d2, rfl, rfl, by simp; omega, fun s hs => ?_, ?_, fun rows' ts h1 h2 => ?_, fun p hp => ?_⟩
  · rcases List.mem_append.mp hs with hs | hs
    · exact ns_in s hs
    · exact i2' s hs
  · rw [sumL_app, sumL_sl, List.length_append]
    rw [es] at i3
    simp
    omega
  · obtain ⟨q1, q2⟩ := Wfs.split h2
    rw [nl] at q1 q2
    have hlen := h2.len
    have hle : rr.sl.length ≤ ts.length := by
      rw [hlen, List.length_append, nl]
      omega
    have hp : par ((n, rr.sl.length) :: rows') = some (.nd n (ts.take rr.sl.length) :: ts.drop rr.sl.length) := by
      rw [par, h1, Option.bind_some, if_pos hle]
    obtain ⟨t, t1, t2⟩ := i4 _ _ hp (by
      rw [Wfs]
      refine ⟨?_, q2⟩
      rw [Wf]
      exact ⟨rr, hrr, hrn, q1⟩)
    exact ⟨t, by rw [List.append_assoc]; exact t1, t2⟩
  · rcases List.mem_append.mp hp with hp | hp
    · exact i5 p hp
    · simp at hp
      subst hp
      exact hsl
end
/-! ### the nodes of a tree in order, plain -/
def starts : Nat → List Tr → List Nat
  | _, [] => []
  | s, t :: r => s :: starts (s + t.pre.length) r
theorem starts_len : ∀ (s : Nat) (ps : List Tr), (starts s ps).length = ps.length
  | _, [] => rfl
  | s, t :: r => by rw [starts, List.length_cons, List.length_cons, starts_len]
/-- where those that wait will stand -/
def pend (i : Nat) : Nat → List (Tr × Int) → List Nat
  | _, [] => []
  | s, (t, a) :: w => (if a = (i : Int) then [s] else []) ++ pend i (s + t.pre.length) w
theorem pend_none {i : Nat} : ∀ {s : Nat} {w : List (Tr × Int)}, (∀ p ∈ w, p.2 ≠ (i : Int)) → pend i s w = []
  | _, [], _ => rfl
  | s, (t, a) :: w, h => by
    rw [pend, if_neg (h (t, a) (by simp)), pend_none fun p hp => h p (by simp [hp])]
    rfl
theorem pend_kids {i : Nat} : ∀ (s : Nat) (ps : List Tr) (w : List (Tr × Int)), pend i s (ps.map (fun y => (y, (i : Int))) ++ w) = starts s ps ++ pend i (s + (pres ps).length) w
  | s, [], w => by simp [starts, pres]
  | s, t :: r, w => by
    rw [List.map_cons, List.cons_append, pend, if_pos rfl, pend_kids _ r w, starts, pres, List.length_append]
    simp [Nat.add_assoc]
theorem pend_other {i j : Nat} (h : j ≠ i) : ∀ (s : Nat) (ps : List Tr) (w : List (Tr × Int)), pend i s (ps.map (fun y => (y, (j : Int))) ++ w) = pend i (s + (pres ps).length) w
  | s, [], w => by simp [pres]
  | s, t :: r, w => by
    rw [List.map_cons, List.cons_append, pend, if_neg (by omega), pend_other h _ r w, pres, List.length_append]
    simp [Nat.add_assoc]
abbrev wpre (w : List (Tr × Int)) : List Tr := w.flatMap fun p => p.1.pre
theorem wpre_kids (a : Int) : ∀ ps : List Tr, wpre (ps.map fun y => (y, a)) = pres ps
  | [] => rfl
  | t :: r => by
    rw [List.map_cons, pres]
    show List.flatMap _ _ = _
    rw [List.flatMap_cons]
    congr 1
    exact wpre_kids a r
structure FS (t : Tr) (ns : List Tr) (js : List Nat) (cs : List (List Nat)) (wt : List (Tr × Int)) (g : Sto) : Prop where
  jl : js.length = ns.length
  cl : cs.length = ns.length
  inc : js.Pairwise (· < ·)
  jlt : ∀ j ∈ js, j < g.length
  cell : ∀ (i j : Nat) (c : List Nat), js[i]? = some j → cs[i]? = some c → g[j]? = some (.lst (c.map natD))
  ab : ∀ p ∈ wt, p.2 = -1 ∨ ∃ a : Nat, p.2 = (a : Int) ∧ a < ns.length
  pre : ns ++ wpre wt = t.pre
  fin : ∀ (i : Nat) (x : Tr) (c : List Nat), ns[i]? = some x → cs[i]? = some c → c ++ pend i ns.length wt = starts (i + 1) x.kids
theorem FS.start (t : Tr) : FS t [] [] [] [(t, -1)] [] := ⟨rfl, rfl, .nil, by simp, fun _ _ _ h => by simp at h, fun p hp => by simp at hp; subst hp; exact .inl rfl, by simp [wpre], fun _ _ _ h => by simp at h⟩
theorem FS.len {t : Tr} {ns : List Tr} {js : List Nat} {cs : List (List Nat)} {x : Tr} {a : Int} {w : List (Tr × Int)} {g : Sto} (h : FS t ns js cs ((x, a) :: w) g) : ns.length < t.pre.length := by
  have := congrArg List.length h.pre
  rw [List.length_append] at this
  have e : wpre ((x, a) :: w) = x.pre ++ wpre w := rfl
  rw [e, pre_eq, List.length_append, List.length_cons] at this
  omega
theorem FS.mem {t : Tr} {ns : List Tr} {js : List Nat} {cs : List (List Nat)} {x : Tr} {a : Int} {w : List (Tr × Int)} {g : Sto} (h : FS t ns js cs ((x, a) :: w) g) : x ∈ t.pre := by
  rw [← h.pre]
  have e : wpre ((x, a) :: w) = x.pre ++ wpre w := rfl
  rw [e, pre_eq]
  simp
/-- a node goes from those that wait to those that are told -/
theorem FS.go {t : Tr} {ns : List Tr} {js : List Nat} {cs cs' : List (List Nat)} {x : Tr} {a : Int} {w : List (Tr × Int)} {g g' : Sto} (h : FS t ns js cs ((x, a) :: w) g) (g2 : Sto) (hl : g'.length = g.length) (hcl : cs'.length = cs.length)
    (hcell : ∀ (i j : Nat) (c : List Nat), js[i]? = some j → cs'[i]? = some c → g'[j]? = some (.lst (c.map natD)))
    (hc : ∀ (i : Nat) (c' : List Nat), cs'[i]? = some c' → ∃ c, cs[i]? = some c ∧ c' = c ++ (if a = (i : Int) then [ns.length] else [])) :
    FS t (ns ++ [x]) (js ++ [(g' ++ g2).length]) (cs' ++ [[]]) (x.kids.map (fun y => (y, (ns.length : Int))) ++ w) (g' ++ g2 ++ [.lst []]) := by
  have e : wpre ((x, a) :: w) = x :: pres x.kids ++ wpre w := by
    show x.pre ++ wpre w = _
    rw [pre_eq]
  have hab : ∀ p ∈ w, p.2 ≠ (ns.length : Int) := fun p hp => by
    rcases h.ab p (by simp [hp]) with e | ⟨b, e, hb⟩ <;> omega
  refine ⟨by simp [h.jl], by simp [hcl, h.cl], ?_, fun j hj => ?_, fun i j c h1 h2 => ?_, fun p hp => ?_, ?_, fun i y c h1 h2 => ?_⟩
  · rw [List.pairwise_append]
    refine ⟨h.inc, by simp, fun j hj k hk => ?_⟩
    simp at hk
    have := h.jlt j hj
    omega
  · rcases List.mem_append.mp hj with hj | hj
    · have := h.jlt j hj
      simp
      omega
    · simp at hj
      simp
      omega
  · by_cases hi : i < js.length
    · rw [List.getElem?_append_left hi] at h1
      rw [List.getElem?_append_left (by rw [hcl, h.cl, ← h.jl]; exact hi)] at h2
      rw [List.append_assoc]
      exact get_pre (hcell i j c h1 h2)
    · have hi2 : i = js.length := by
        have := (List.getElem?_eq_some_iff.mp h1).1
        simp at this
        omega
      subst hi2
      rw [List.getElem?_append_right (Nat.le_refl _), Nat.sub_self] at h1
      rw [show js.length = cs'.length by rw [h.jl, hcl, h.cl], List.getElem?_append_right (Nat.le_refl _), Nat.sub_self] at h2
      cases h1
      cases h2
      exact get_end _ _
  · rcases List.mem_append.mp hp with hp | hp
    · obtain ⟨y, _, rfl⟩ := List.mem_map.mp hp
      exact .inr ⟨ns.length, rfl, by simp⟩
    · rcases h.ab p (by simp [hp]) with e | ⟨b, e, hb⟩
      · exact .inl e
      · exact .inr ⟨b, e, by simp; omega⟩
  · rw [← h.pre, e]
    show ns ++ [x] ++ List.flatMap _ _ = _
    rw [List.flatMap_append]
    have := wpre_kids (ns.length : Int) x.kids
    show ns ++ [x] ++ (wpre _ ++ wpre w) = _
    rw [this]
    simp
  · by_cases hi : i < ns.length
    · rw [List.getElem?_append_left hi] at h1
      rw [List.getElem?_append_left (by rw [hcl, h.cl]; exact hi)] at h2
      obtain ⟨c0, hc0, rfl⟩ := hc i c h2
      have := h.fin i y c0 h1 hc0
      rw [pend] at this
      rw [List.length_append, List.length_singleton, pend_other (by omega), ← this, List.append_assoc]
      congr 3
      rw [pre_eq, List.length_cons]
      omega
    · have hi2 : i = ns.length := by
        have := (List.getElem?_eq_some_iff.mp h1).1
        simp at this
        omega
      subst hi2
      rw [List.getElem?_append_right (Nat.le_refl _), Nat.sub_self] at h1
      rw [show ns.length = cs'.length by rw [hcl, h.cl], List.getElem?_append_right (Nat.le_refl _), Nat.sub_self] at h2
      cases h1
      cases h2
      rw [List.length_append, List.length_singleton, pend_kids, pend_none hab, List.append_nil]
      rfl
theorem FS.root {t : Tr} {ns : List Tr} {js : List Nat} {cs : List (List Nat)} {x : Tr} {w : List (Tr × Int)} {g : Sto} (h : FS t ns js cs ((x, -1) :: w) g) (g2 : Sto) :
    FS t (ns ++ [x]) (js ++ [(g ++ g2).length]) (cs ++ [[]]) (x.kids.map (fun y => (y, (ns.length : Int))) ++ w) (g ++ g2 ++ [.lst []]) :=
  h.go g2 rfl rfl h.cell fun i c' hc => ⟨c', hc, by rw [if_neg (by omega), List.append_nil]⟩
theorem FS.kid {t : Tr} {ns : List Tr} {js : List Nat} {cs : List (List Nat)} {x : Tr} {a : Nat} {w : List (Tr × Int)} {g : Sto} (h : FS t ns js cs ((x, (a : Int)) :: w) g) : ∃ j c, js[a]? = some j ∧ cs[a]? = some c ∧ g[j]? = some (.lst (c.map natD)) ∧ j < g.length ∧ (∃ y ∈ t.pre, c.length ≤ y.kids.length) ∧
    ∀ g2 : Sto, FS t (ns ++ [x]) (js ++ [(g.set j (.lst ((c ++ [ns.length]).map natD)) ++ g2).length]) (cs.set a (c ++ [ns.length]) ++ [[]]) (x.kids.map (fun y => (y, (ns.length : Int))) ++ w) (g.set j (.lst ((c ++ [ns.length]).map natD)) ++ g2 ++ [.lst []]) := by
  have ha : a < ns.length := by
    rcases h.ab _ List.mem_cons_self with e | ⟨b, e, hb⟩ <;> simp at e <;> omega
  have hj : a < js.length := by rw [h.jl]; exact ha
  have hcl : a < cs.length := by rw [h.cl]; exact ha
  have h1 := List.getElem?_eq_getElem hj
  have h2 := List.getElem?_eq_getElem hcl
  have h3 := List.getElem?_eq_getElem ha
  have hcell := h.cell _ _ _ h1 h2
  have hjlt := h.jlt _ (List.getElem_mem hj)
  refine ⟨js[a], cs[a], h1, h2, hcell, hjlt, ⟨ns[a], ?_, ?_⟩, fun g2 => h.go g2 (List.length_set) (List.length_set) (fun i j c q1 q2 => ?_) fun i c' hc => ?_⟩
  · rw [← h.pre]
    exact List.mem_append_left _ (List.getElem_mem ha)
  · have := congrArg List.length (h.fin _ _ _ h3 h2)
    rw [List.length_append, starts_len] at this
    omega
  · by_cases hi : i = a
    · subst hi
      rw [h1] at q1
      cases q1
      rw [List.getElem?_set_self hcl] at q2
      cases q2
      exact List.getElem?_set_self hjlt
    · rw [List.getElem?_set_ne (Ne.symm hi)] at q2
      have hne : js[a] ≠ j := fun z => by
        have hi2 := (List.getElem?_eq_some_iff.mp q1).1
        have e2 := (List.getElem?_eq_some_iff.mp q1).2
        have := List.pairwise_iff_getElem.mp h.inc
        rcases Nat.lt_or_gt_of_ne hi with q | q
        · have := this i a hi2 hj q
          omega
        · have := this a i hj hi2 q
          omega
      rw [List.getElem?_set_ne hne]
      exact h.cell i j c q1 q2
  · by_cases hi : i = a
    · subst hi
      rw [List.getElem?_set_self hcl] at hc
      cases hc
      exact ⟨cs[i], h2, by rw [if_pos rfl]⟩
    · rw [List.getElem?_set_ne (Ne.symm hi)] at hc
      exact ⟨c', hc, by rw [if_neg (by omega), List.append_nil]⟩
theorem FS.done {t : Tr} {ns : List Tr} {js : List Nat} {cs : List (List Nat)} {g : Sto} (h : FS t ns js cs [] g) : ns = t.pre ∧ ∀ (i j : Nat) (x : Tr), js[i]? = some j → t.pre[i]? = some x → g[j]? = some (.lst ((starts (i + 1) x.kids).map natD)) := by
  have e : ns = t.pre := by
    have := h.pre
    simpa [wpre] using this
  refine ⟨e, fun i j x h1 h2 => ?_⟩
  rw [← e] at h2
  have hi : i < cs.length := by rw [h.cl]; exact (List.getElem?_eq_some_iff.mp h2).1
  have h3 := List.getElem?_eq_getElem hi
  have := h.fin i x _ h2 h3
  rw [pend, List.append_nil] at this
  rw [← this]
  exact h.cell i j _ h1 h3
/-! ### the nodes of a tree in order, walked -/
abbrev wD (p : Tr × Int) : D := .tup [p.1.d, .int p.2]
abbrev fst_ (S : Sto) (ns : List Tr) (js : List Nat) (wt : List (Tr × Int)) (g : Sto) : Sto := S ++ [.lst (ns.map Tr.d)] ++ ([.lst (js.map fun j => D.ref (S.length + 3 + j))] ++ ([.lst (wt.reverse.map wD)] ++ g))
structure FlatR (S G : Sto) (t : Tr) (a b : Nat) : Prop where
  na : (S ++ G)[a]? = some (.lst (t.pre.map Tr.d))
  nb : ∃ rs : List Nat, (S ++ G)[b]? = some (.lst (rs.map D.ref)) ∧ rs.length = t.pre.length ∧ ∀ (i r : Nat) (x : Tr), rs[i]? = some r → t.pre[i]? = some x → (S ++ G)[r]? = some (.lst ((starts (i + 1) x.kids).map natD))
theorem FlatR.pre {S G g : Sto} {t : Tr} {a b : Nat} (h : FlatR S G t a b) : FlatR S (G ++ g) t a b := by
  obtain ⟨h1, rs, h2, h3, h4⟩ := h
  refine ⟨by rw [← List.append_assoc]; exact get_pre h1, rs, by rw [← List.append_assoc]; exact get_pre h2, h3, fun i r x q1 q2 => by rw [← List.append_assoc]; exact get_pre (h4 i r x q1 q2)⟩
section
variable {k : Nat} {S : Sto} {Q : D → Sto → Prop} {ns : List Tr} {js : List Nat} {wt : List (Tr × Int)} {g : Sto} {t : Tr}
theorem f_n : (fst_ S ns js wt g)[S.length]? = some (.lst (ns.map Tr.d)) := get_mid _ _ _
theorem f_b : (fst_ S ns js wt g)[S.length + 1]? = some (.lst (js.map fun j => D.ref (S.length + 3 + j))) := by
  show (_ ++ _)[_]? = _
  rw [← List.append_assoc, show S.length + 1 = (S ++ [Ob.lst (ns.map Tr.d)]).length by simp]
  exact get_mid _ _ _
theorem f_w : (fst_ S ns js wt g)[S.length + 2]? = some (.lst (wt.reverse.map wD)) := by
  show (_ ++ _)[_]? = _
  rw [← List.append_assoc, ← List.append_assoc, show S.length + 2 = (S ++ [Ob.lst (ns.map Tr.d)] ++ [Ob.lst (js.map fun j => D.ref (S.length + 3 + j))]).length by simp]
  exact get_mid _ _ _
theorem f_g {j : Nat} : (fst_ S ns js wt g)[S.length + 3 + j]? = g[j]? := by
  show (_ ++ _)[_]? = _
  rw [← List.append_assoc, ← List.append_assoc, List.getElem?_append_right (by simp)]
  congr 1
  simp
theorem f_sn {l : List D} {ns' : List Tr} (h : l = ns'.map Tr.d) : (fst_ S ns js wt g).set S.length (.lst l) = fst_ S ns' js wt g := by
  subst h
  exact set_mid _ _ _ _
theorem f_sb {l : List D} {js' : List Nat} (h : l = js'.map fun j => D.ref (S.length + 3 + j)) : (fst_ S ns js wt g).set (S.length + 1) (.lst l) = fst_ S ns js' wt g := by
  subst h
  show List.set (_ ++ _) _ _ = _ ++ _
  rw [← List.append_assoc, show S.length + 1 = (S ++ [Ob.lst (ns.map Tr.d)]).length by simp, set_mid, List.append_assoc]
theorem f_sw {l : List D} {wt' : List (Tr × Int)} (h : l = wt'.reverse.map wD) : (fst_ S ns js wt g).set (S.length + 2) (.lst l) = fst_ S ns js wt' g := by
  subst h
  show List.set (_ ++ _) _ _ = _ ++ _
  rw [← List.append_assoc, ← List.append_assoc, show S.length + 2 = (S ++ [Ob.lst (ns.map Tr.d)] ++ [Ob.lst (js.map fun j => D.ref (S.length + 3 + j))]).length by simp, set_mid, List.append_assoc, List.append_assoc]
theorem f_sg {j : Nat} {o : Ob} : (fst_ S ns js wt g).set (S.length + 3 + j) o = fst_ S ns js wt (g.set j o) := by
  show List.set (_ ++ _) _ _ = _ ++ _
  rw [← List.append_assoc, ← List.append_assoc, List.set_append_right _ _ (by simp), List.append_assoc, List.append_assoc]
  congr 4
  simp
theorem f_app {g2 : Sto} : fst_ S ns js wt g ++ g2 = fst_ S ns js wt (g ++ g2) := by
  show _ ++ _ ++ g2 = _ ++ _
  simp
theorem f_len : (fst_ S ns js wt g).length = S.length + 3 + g.length := by
  show List.length (_ ++ _) = _
  simp
  omega
theorem FS.wlen {cs : List (List Nat)} (h : FS t ns js cs wt g) : ns.length + wt.length ≤ t.pre.length := by
  have e := congrArg List.length h.pre
  rw [List.length_append] at e
  have : ∀ w : List (Tr × Int), w.length ≤ (wpre w).length := by
    intro w
    induction w with
    | nil => simp
    | cons p w ih =>
      show _ ≤ (p.1.pre ++ wpre w).length
      rw [List.length_append, pre_eq, List.length_cons, List.length_cons]
      omega
  have := this wt
  omega
theorem FS.res {cs : List (List Nat)} (h : FS t ns js cs [] g) (g2 : Sto) : FlatR S ([.lst (ns.map Tr.d)] ++ ([.lst (js.map fun j => D.ref (S.length + 3 + j))] ++ ([.lst (([] : List (Tr × Int)).reverse.map wD)] ++ g)) ++ g2) t S.length (S.length + 1) := by
  obtain ⟨e, fin⟩ := h.done
  have es : S ++ ([.lst (ns.map Tr.d)] ++ ([.lst (js.map fun j => D.ref (S.length + 3 + j))] ++ ([.lst (([] : List (Tr × Int)).reverse.map wD)] ++ g)) ++ g2) = fst_ S ns js [] g ++ g2 := by
    show _ = _ ++ _ ++ g2
    simp
  subst e
  refine ⟨by rw [es]; exact get_pre f_n, js.map fun j => S.length + 3 + j, by rw [es, List.map_map]; exact get_pre f_b, by rw [List.length_map, h.jl], fun i r x h1 h2 => ?_⟩
  rw [List.getElem?_map, Option.map_eq_some_iff] at h1
  obtain ⟨j, hj, rfl⟩ := h1
  rw [es]
  refine get_pre ?_
  rw [f_g]
  exact fin i j x hj h2
theorem popW {p : Tr × Int} {w : List (Tr × Int)} : ((p :: w).reverse.map wD)[((p :: w).reverse.map wD).length - 1]? = some (wD p) ∧ ((p :: w).reverse.map wD).dropLast = w.reverse.map wD := by
  rw [List.reverse_cons, List.map_append]
  simp
theorem parts_w (h : Q (.ref S.length) (S ++ [.lst (t.kids.map Tr.d)])) : W (orc T (k + 1) n__law_parts [t.d] S) Q := by
  obtain ⟨n, ps⟩ := t
  rw [tr_d]
  refine orc_w (ρ := [some (.tup [natD n, .tup (ps.map Tr.d)])]) rfl rfl rfl ?_
  show W (evSs _ b__law_parts _ _) _
  simp only [b__law_parts]
  mul_fits
  simp only [b__law_parts_1]
  mul_fits
  rw [gc_out (by simp [below])]
  exact w_ok h
theorem lflat_w (hz : t.pre.length ≤ 3000) (hk : ∀ x ∈ t.pre, x.kids.length ≤ 10) (h : ∀ (G : Sto) (a b c : Nat), FlatR S G t a b → (S ++ G)[c]? = some (.lst [.ref a, .ref b]) → Q (.ref c) (S ++ G)) : W (orc T (k + 2) n__law_flat [t.d] S) Q := by
  refine orc_w (ρ := [some t.d, none, none, none, none, none, none, none]) rfl rfl rfl ?_
  show W (evSs _ b__law_flat _ _) _
  simp only [b__law_flat]
  mul_fits
  have e0 : S ++ [Ob.lst []] ++ [Ob.lst []] ++ [Ob.lst [D.tup [t.d, D.int (-1)]]] = fst_ S [] [] [(t, -1)] [] := by
    show _ = _ ++ _
    simp
  rw [e0, show rgD 0 5000 = (List.range 5000).map natD from rgD0 5000, show (S ++ [Ob.lst []]).length = S.length + 1 by simp, show (S ++ [Ob.lst []] ++ [Ob.lst []]).length = S.length + 2 by simp]
  refine loopS_re natD (fun r ρ S' => ∃ (ns : List Tr) (js : List Nat) (cs : List (List Nat)) (wt : List (Tr × Int)) (g : Sto) (o4 o5 o6 : Option D), S' = fst_ S ns js wt g ∧ ρ = [some t.d, some (.ref S.length), some (.ref (S.length + 1)), some (.ref (S.length + 2)), o4, o5, o6, none] ∧ FS t ns js cs wt g ∧ ns.length + r.length = 5000) ?_ ?_ _ _ _ ⟨[], [], [], [(t, -1)], [], _, _, _, rfl, rfl, .start t, by simp⟩
  rotate_left
  · rintro ρ S' ⟨ns, js, cs, wt, g, o4, o5, o6, rfl, rfl, fs, hl⟩
    exfalso
    have := fs.wlen
    simp at hl
    omega
  rintro q r ρ S' ⟨ns, js, cs, wt, g, o4, o5, o6, rfl, rfl, fs, hl⟩
  refine ⟨trivial, ?_⟩
  rw [List.length_cons] at hl
  have wl := fs.wlen
  have sqw : sqOf (fst_ S ns js wt g) (.val (.ref (S.length + 2))) = some (wt.reverse.map wD) := by simp only [sqOf, lsOf, f_w]
  simp only [b__law_flat_1]
  mul_fits
  cases wt with
  | nil =>
    refine w_ifd (fun c => ?_) fun c => (c (by simp)).elim
    mul_fits
    have e : fst_ S ns js [] g ++ [Ob.lst [D.ref S.length, D.ref (S.length + 1)]] = S ++ ([.lst (ns.map Tr.d)] ++ ([.lst (js.map fun j => D.ref (S.length + 3 + j))] ++ ([.lst (([] : List (Tr × Int)).reverse.map wD)] ++ g)) ++ [Ob.lst [D.ref S.length, D.ref (S.length + 1)]]) := by
      show _ ++ _ ++ _ = _
      simp
    have ge := get_end (fst_ S ns js [] g) (Ob.lst [D.ref S.length, D.ref (S.length + 1)])
    rw [f_len] at ge ⊢
    rw [e] at ge ⊢
    rw [gc_out (by simp [below]; omega)]
    exact w_ok (h _ _ _ _ (fs.res _) ge)
  | cons p w =>
  obtain ⟨x, a⟩ := p
  refine w_ifd (fun c => ?_) fun c => ?_
  · exfalso
    simp at c
    omega
  mul_fits
  simp only [b__law_flat_2]
  have pw := popW (p := (x, a)) (w := w)
  have hx := fs.mem
  have hxk := hk x hx
  have hlt := fs.len
  rw [List.length_cons] at wl
  mul_fits
  refine v_pop f_w pw.1 ?_
  rw [f_sw (wt' := w) pw.2]
  mul_fits
  have sqn : ∀ (js : List Nat) (w : List (Tr × Int)) (g : Sto), sqOf (fst_ S ns js w g) (.val (.ref S.length)) = some (ns.map Tr.d) := fun js w g => by simp only [sqOf, lsOf, f_n]
  -- what follows the test
  have fin : ∀ (cs' : List (List Nat)) (g' : Sto), (∀ g2 : Sto, FS t (ns ++ [x]) (js ++ [(g' ++ g2).length]) cs' (x.kids.map (fun y => (y, (ns.length : Int))) ++ w) (g' ++ g2 ++ [.lst []])) → ∀ (C1 : Fl → Sto → Prop), (∀ (js' : List Nat) (wt' : List (Tr × Int)) (gg : Sto), FS t (ns ++ [x]) js' cs' wt' gg → C1 (.nx [some t.d, some (.ref S.length), some (.ref (S.length + 1)), some (.ref (S.length + 2)), some (natD q), some x.d, some (.int a), none]) (fst_ S (ns ++ [x]) js' wt' gg)) →
      W (evSs (orc T (k + 1)) b__law_flat_3 [some t.d, some (.ref S.length), some (.ref (S.length + 1)), some (.ref (S.length + 2)), some (natD q), some x.d, some (.int a), none] (fst_ S ns js w g')) C1 := by
    intro cs' g' hf C1 hC
    have sqn1 := sqn js w (g' ++ [Ob.lst (x.kids.map Tr.d)])
    simp only [b__law_flat_3]
    mul_fits
    refine w_withL f_w ?_
    mul_fits
    refine parts_w ?_
    rw [f_app, f_len]
    have kp : (fst_ S ns js w (g' ++ [Ob.lst (x.kids.map Tr.d)]))[S.length + 3 + g'.length]? = some (.lst (x.kids.map Tr.d)) := by
      rw [f_g]
      exact get_end _ _
    have lsp : lsOf (fst_ S ns js w (g' ++ [Ob.lst (x.kids.map Tr.d)])) (.val (.ref (S.length + 3 + g'.length))) = some (x.kids.map Tr.d) := by simp only [lsOf, kp]
    mul_fits
    try (refine w_may lsp ?_)
    mul_fits
    refine ⟨by rw [List.length_reverse, List.length_map]; exact le_size (by omega), ?_⟩
    rw [← List.map_reverse]
    refine loopQ_m Tr.d (fun y => wD (y, (ns.length : Int))) (fun S' => S' = fst_ S ns js w (g' ++ [Ob.lst (x.kids.map Tr.d)])) _ (fun y _ S' e => ?_) (fun S' e => ?_) _ rfl
    · subst e
      refine ⟨trivial, ?_⟩
      mul_fits
      rw [List.length_map]
      exact ⟨rfl, rfl⟩
    subst e
    refine ⟨trivial, ?_⟩
    mul_fits
    refine v_ext (ds := w.reverse.map wD) (es := x.kids.reverse.map fun y => wD (y, (ns.length : Int))) f_w rfl (by
      simp only [List.length_map, List.length_reverse]
      exact le_size (by omega)) ?_
    rw [f_sw (wt' := x.kids.map (fun y => (y, (ns.length : Int))) ++ w) (by simp)]
    mul_fits
    have hf2 := hf [Ob.lst (x.kids.map Tr.d)]
    generalize (x.kids.map (fun y => (y, (ns.length : Int))) ++ w) = w' at hf2 ⊢
    generalize hg2 : g' ++ [Ob.lst (x.kids.map Tr.d)] = g2 at hf2 ⊢
    refine w_withL f_n ?_
    mul_fits
    refine v_app (ds := ns.map Tr.d) f_n (Nat.lt_of_lt_of_le (Nat.lt_succ_self _) (by rw [List.length_map]; exact le_size (by omega))) ?_
    rw [f_sn (ns' := ns ++ [x]) (by rw [List.map_append]; rfl)]
    mul_fits
    refine w_withL f_b ?_
    mul_fits
    rw [f_app, f_len]
    refine v_app (ds := js.map fun j => D.ref (S.length + 3 + j)) f_b (Nat.lt_of_lt_of_le (Nat.lt_succ_self _) (by rw [List.length_map, fs.jl]; exact le_size (by omega))) ?_
    rw [f_sb (js' := js ++ [g2.length]) (by rw [List.map_append]; rfl)]
    mul_fits
    exact hC _ _ _ hf2
  refine w_ifd (fun c => ?_) fun c => ?_
  · obtain ⟨a, rfl⟩ := Int.eq_ofNat_of_zero_le c
    obtain ⟨j, c0, h1, h2, h3, h4, ⟨y, hy, hy2⟩, h5⟩ := fs.kid
    have hyk := hk y hy
    have kg2 : (fst_ S ns js w g)[S.length + 3 + j]? = some (.lst (c0.map natD)) := by rw [f_g]; exact h3
    have sqn1 := sqn js w g
    have ja := (List.getElem?_eq_some_iff.mp h1).1
    have kb : atI (js.map fun j => D.ref (S.length + 3 + j)) (a : Int) = some (.ref (S.length + 3 + j)) := by
      rw [at_map _ _ _ ja, (List.getElem?_eq_some_iff.mp h1).2]
    mul_fits
    refine v_idx f_b kb ?_
    mul_fits
    rw [List.length_map]
    refine v_app kg2 (Nat.lt_of_lt_of_le (Nat.lt_succ_self _) (by rw [List.length_map]; exact le_size (by omega))) ?_
    rw [f_sg]
    mul_fits
    have eo : Ob.lst (c0.map natD ++ [D.int (ns.length : Int)]) = .lst ((c0 ++ [ns.length]).map natD) := by rw [List.map_append]; rfl
    rw [eo]
    refine fin _ _ h5 _ fun js' wt' gg hf => ?_
    exact ⟨_, _, _, _, _, _, _, _, rfl, rfl, hf, by simp; omega⟩
  · have ea : a = -1 := by
      rcases fs.ab _ List.mem_cons_self with e | ⟨b, e, _⟩
      · exact e
      · exfalso
        simp at e
        omega
    subst ea
    mul_fits
    refine fin _ _ fs.root _ fun js' wt' gg hf => ?_
    exact ⟨_, _, _, _, _, _, _, _, rfl, rfl, hf, by simp; omega⟩
end
/-! ### the program's nodes in order -/
section
variable {k : Nat} {S : Sto} {Q : D → Sto → Prop} {t : Tr}
theorem flat_w (hz : t.pre.length ≤ 3000) (hk : ∀ x ∈ t.pre, x.kids.length ≤ 10) (h : ∀ (G : Sto) (a b : Nat), FlatR S G t a b → S.length ≤ a → Q (.tup [.ref a, .ref b]) (S ++ G)) : W (orc T (k + 1) n_flat [t.d] S) Q := by
  refine orc_w (ρ := [some t.d, none, none, none, none, none, none, none, none]) rfl rfl rfl ?_
  show W (evSs _ b_flat _ _) _
  simp only [b_flat]
  mul_fits
  have e0 : S ++ [Ob.lst []] ++ [Ob.lst []] ++ [Ob.lst [D.tup [t.d, D.int (-1)]]] = fst_ S [] [] [(t, -1)] [] := by
    show _ = _ ++ _
    simp
  rw [e0, show (S ++ [Ob.lst []]).length = S.length + 1 by simp, show (S ++ [Ob.lst []] ++ [Ob.lst []]).length = S.length + 2 by simp]
  refine while_w (fun n ρ S' => ∃ (ns : List Tr) (js : List Nat) (cs : List (List Nat)) (wt : List (Tr × Int)) (g : Sto) (o4 o5 o6 o7 o8 : Option D), S' = fst_ S ns js wt g ∧ ρ = [some t.d, some (.ref S.length), some (.ref (S.length + 1)), some (.ref (S.length + 2)), o4, o5, o6, o7, o8] ∧ FS t ns js cs wt g ∧ n + ns.length = t.pre.length) ?_ t.pre.length _ _ _ (by unfold turns; omega) ⟨[], [], [], [(t, -1)], [], _, _, _, _, _, rfl, rfl, .start t, by simp⟩
  rintro n ρ S' ⟨ns, js, cs, wt, g, o4, o5, o6, o7, o8, rfl, rfl, fs, hl⟩
  have wl := fs.wlen
  have sqw : sqOf (fst_ S ns js wt g) (.val (.ref (S.length + 2))) = some (wt.reverse.map wD) := by simp only [sqOf, lsOf, f_w]
  mul_fits
  refine ⟨fun c => ?_, fun c => ?_⟩
  · cases wt with
    | nil => exact absurd c (by simp)
    | cons p w =>
    obtain ⟨x, a⟩ := p
    have hlt := fs.len
    have hx := fs.mem
    have hxk := hk x hx
    cases n with
    | zero => omega
    | succ n =>
    refine ⟨n, rfl, ?_⟩
    simp only [b_flat_1]
    have pw := popW (p := (x, a)) (w := w)
    rw [List.length_cons] at wl
    mul_fits
    refine v_pop f_w pw.1 ?_
    rw [f_sw (wt' := w) pw.2]
    have sqn : sqOf (fst_ S ns js w g) (.val (.ref S.length)) = some (ns.map Tr.d) := by simp only [sqOf, lsOf, f_n]
    mul_fits
    rw [List.length_map]
    refine w_withL f_n ?_
    mul_fits
    refine v_app (ds := ns.map Tr.d) f_n (Nat.lt_of_lt_of_le (Nat.lt_succ_self _) (by rw [List.length_map]; exact le_size (by omega))) ?_
    rw [f_sn (ns' := ns ++ [x]) (by rw [List.map_append]; rfl)]
    mul_fits
    refine w_withL f_b ?_
    mul_fits
    rw [f_app, f_len]
    refine v_app (ds := js.map fun j => D.ref (S.length + 3 + j)) f_b (Nat.lt_of_lt_of_le (Nat.lt_succ_self _) (by rw [List.length_map, fs.jl]; exact le_size (by omega))) ?_
    rw [f_sb (js' := js ++ [g.length]) (by rw [List.map_append]; rfl)]
    -- what follows the test
    have fin : ∀ (cs' : List (List Nat)) (g' : Sto), FS t (ns ++ [x]) (js ++ [g.length]) cs' (x.kids.map (fun y => (y, (ns.length : Int))) ++ w) g' → 
        W (evSs (orc T k) b_flat_2 [some t.d, some (.ref S.length), some (.ref (S.length + 1)), some (.ref (S.length + 2)), some x.d, some (.int a), some (natD ns.length), o7, o8] (fst_ S (ns ++ [x]) (js ++ [g.length]) w g')) fun fl S2 => ∃ ρ', (fl = .nx ρ' ∨ fl = .ct ρ') ∧ ∃ (ns : List Tr) (js : List Nat) (cs : List (List Nat)) (wt : List (Tr × Int)) (g : Sto) (o4 o5 o6 o7 o8 : Option D), S2 = fst_ S ns js wt g ∧ ρ' = [some t.d, some (.ref S.length), some (.ref (S.length + 1)), some (.ref (S.length + 2)), o4, o5, o6, o7, o8] ∧ FS t ns js cs wt g ∧ n + ns.length = t.pre.length := by
      intro cs' g' hf
      simp only [b_flat_2]
      obtain ⟨nx, kx⟩ := x
      have hxk : kx.length ≤ 10 := hxk
      rw [tr_d]
      mul_fits
      have bd3 : bd62 (((kx.map Tr.d).length : Int) - 1) ∧ bd62 (-1) := by rw [List.length_map]; unfold bd62; omega
      mul_fits
      rw [rgdD_nat, List.length_map]
      refine loopS_e natD (fun r ρ S2 => ∃ (o8 : Option D), r.length ≤ kx.length ∧ r = (List.range r.length).reverse ∧ S2 = fst_ S (ns ++ [.nd nx kx]) (js ++ [g.length]) ((kx.drop r.length).map (fun y => (y, (ns.length : Int))) ++ w) g' ∧ ρ = [some t.d, some (.ref S.length), some (.ref (S.length + 1)), some (.ref (S.length + 2)), some (.tup [natD nx, .tup (kx.map Tr.d)]), some (.int a), some (natD ns.length), some (.tup (kx.map Tr.d)), o8]) ?_ ?_ (List.range kx.length).reverse _ _ ⟨o8, by simp, by simp, by simp, rfl⟩
      · rintro q r ρ S2 ⟨o8, h1, h2, rfl, rfl⟩
        refine ⟨trivial, ?_⟩
        rw [List.length_cons, List.range_succ, List.reverse_append, List.reverse_singleton, List.singleton_append, List.cons.injEq] at h2
        obtain ⟨rfl, h2⟩ := h2
        rw [List.length_cons] at h1
        have hq : r.length < kx.length := by omega
        have ka : atI (kx.map Tr.d) (r.length : Int) = some (kx[r.length]).d := at_map _ _ _ hq
        simp only [b_flat_3]
        mul_fits
        refine w_withL f_w ?_
        mul_fits
        refine v_app (ds := ((kx.drop (r.length + 1)).map (fun y => (y, (ns.length : Int))) ++ w).reverse.map wD) f_w (Nat.lt_of_lt_of_le (Nat.lt_succ_self _) (by
          simp only [List.length_map, List.length_reverse, List.length_append, List.length_drop]
          exact le_size (by omega))) ?_
        rw [f_sw (wt' := (kx.drop r.length).map (fun y => (y, (ns.length : Int))) ++ w) (by
          rw [List.drop_eq_getElem_cons hq, List.map_cons, List.cons_append, List.reverse_cons, List.map_append]
          rfl)]
        mul_fits
        exact ⟨_, .inl rfl, _, by omega, h2, rfl, rfl⟩
      · rintro ρ S2 ⟨o8, h1, h2, rfl, rfl⟩
        refine ⟨trivial, ?_⟩
        mul_fits
        exact ⟨_, .inl rfl, _, _, cs', _, _, _, _, _, _, _, rfl, rfl, hf, by simp; omega⟩
    mul_fits
    refine w_ifd (fun c => ?_) fun c => ?_
    · obtain ⟨a, rfl⟩ := Int.eq_ofNat_of_zero_le c
      obtain ⟨j, c0, h1, h2, h3, h4, ⟨y, hy, hy2⟩, h5⟩ := fs.kid
      have hyk := hk y hy
      have ja := (List.getElem?_eq_some_iff.mp h1).1
      have kb : atI ((js ++ [g.length]).map fun j => D.ref (S.length + 3 + j)) (a : Int) = some (.ref (S.length + 3 + j)) := by
        rw [at_map _ _ _ (by simp; omega), List.getElem_append_left ja, (List.getElem?_eq_some_iff.mp h1).2]
      have kg2 : (fst_ S (ns ++ [x]) (js ++ [g.length]) w (g ++ [Ob.lst []]))[S.length + 3 + j]? = some (.lst (c0.map natD)) := by
        rw [f_g]
        exact get_pre h3
      mul_fits
      refine v_idx f_b kb ?_
      mul_fits
      refine v_app kg2 (Nat.lt_of_lt_of_le (Nat.lt_succ_self _) (by rw [List.length_map]; exact le_size (by omega))) ?_
      rw [f_sg, List.set_append_left _ _ h4]
      mul_fits
      have eo : Ob.lst (c0.map natD ++ [D.int (ns.length : Int)]) = .lst ((c0 ++ [ns.length]).map natD) := by rw [List.map_append]; rfl
      rw [eo]
      have h6 := h5 []
      rw [List.append_nil, List.length_set] at h6
      exact fin _ _ h6
    · have ea : a = -1 := by
        rcases fs.ab _ List.mem_cons_self with e | ⟨b, e, _⟩
        · exact e
        · exfalso
          simp at e
          omega
      subst ea
      have h6 := fs.root []
      rw [List.append_nil] at h6
      mul_fits
      exact fin _ _ h6
  · cases wt with
    | cons p w => exact absurd c (by simp)
    | nil =>
    mul_fits
    simp only [b_flat_4]
    mul_fits
    have e : fst_ S ns js [] g = S ++ ([.lst (ns.map Tr.d)] ++ ([.lst (js.map fun j => D.ref (S.length + 3 + j))] ++ ([.lst (([] : List (Tr × Int)).reverse.map wD)] ++ g)) ++ []) := by
      show _ ++ _ = _
      simp
    rw [e, gc_out (by simp [below, belows])]
    exact w_ok (h _ _ _ (fs.res []) (Nat.le_refl _))
end
/-! ### chances, walked -/
def wOf (ws : List Nat) (i : Nat) : Nat := ws.getD i 0
def Wt (b : Bk) (ws : List Nat) (nm : Str) : Nat := ((rlsOf b nm).map (wOf ws)).sum
structure WsOk (b : Bk) (ws : List Nat) : Prop where
  len : ws.length = b.rls.length
  lo : ∀ w ∈ ws, 1 ≤ w
  hi : ∀ w ∈ ws, w ≤ 300
abbrev wsD (ws : List Nat) : D := .tup (ws.map natD)
theorem WsOk.at {b : Bk} {ws : List Nat} (o : WsOk b ws) {i : Nat} (h : i < b.rls.length) : atI (ws.map natD) (i : Int) = some (natD (wOf ws i)) ∧ 1 ≤ wOf ws i ∧ wOf ws i ≤ 300 := by
  have h' : i < ws.length := by rw [o.len]; exact h
  have e : wOf ws i = ws[i] := by simp [wOf, List.getD, h']
  rw [e]
  exact ⟨at_map _ _ _ h', o.lo _ (List.getElem_mem h'), o.hi _ (List.getElem_mem h')⟩
theorem sum_bd {α : Type} {f : α → Nat} {c : Nat} : ∀ {l : List α}, (∀ x ∈ l, f x ≤ c) → (l.map f).sum ≤ l.length * c
  | [], _ => by simp
  | x :: l, h => by
    rw [List.map_cons, List.sum_cons, List.length_cons, Nat.succ_mul]
    have := h x (by simp)
    have := sum_bd (l := l) fun y hy => h y (by simp [hy])
    omega
theorem lt_of_rlsOf {b : Bk} {nm : Str} {i : Nat} (h : i ∈ rlsOf b nm) : i < b.rls.length := by
  obtain ⟨r, h1, _⟩ := mem_rlsOf.mp h
  exact (List.getElem?_eq_some_iff.mp h1).1
theorem Wt_bd {b : Bk} {ws : List Nat} (o : WsOk b ws) (hr : b.rls.length ≤ 900) (nm : Str) : Wt b ws nm ≤ 270000 := by
  have h1 := sum_bd (f := wOf ws) (c := 300) (l := rlsOf b nm) fun x hx => (o.at (lt_of_rlsOf hx)).2.2
  have h2 := rlsOf_len b nm
  have : (rlsOf b nm).length * 300 ≤ 900 * 300 := Nat.mul_le_mul_right _ (by omega)
  unfold Wt
  omega
theorem Wt_pos {b : Bk} {ws : List Nat} (o : WsOk b ws) {nm : Str} {i : Nat} (h : i ∈ rlsOf b nm) : 1 ≤ Wt b ws nm := by
  have h1 := mem_sum (f := wOf ws) h
  have := (o.at (lt_of_rlsOf h)).2.1
  unfold Wt
  omega
def rat (x y : Nat) : Rat := Rat.divInt (x : Int) (y : Int)
theorem rat_bd {x y n : Nat} (h : y ≠ 0) (h1 : x < 2 ^ n) (h2 : y < 2 ^ n) : QB n (rat x y) := divInt_bd (by omega) (by rw [Int.natAbs_natCast]; exact h1) (by rw [Int.natAbs_natCast]; exact h2)
theorem rat_mul {a b c d : Nat} : rat a b * rat c d = rat (a * c) (b * d) := by
  unfold rat
  rw [Rat.divInt_mul_divInt, Int.natCast_mul, Int.natCast_mul]
theorem rat_add {a c w : Nat} (h : w ≠ 0) : rat a w + rat c w = rat (a + c) w := by
  unfold rat
  have hw : (w : Int) ≠ 0 := by omega
  rw [Rat.divInt_add_divInt _ _ hw hw, ← Int.add_mul, Rat.divInt_mul_right hw, Int.natCast_add]
theorem rat_zero {w : Nat} : rat 0 w = 0 := by simp [rat]
/-- how many slots of a rule bear a name -/
def cnt (o : Str) (r : Rl) : Nat := (r.sl.filter fun s => decide (s.nm = o)).length
theorem cnt_le (o : Str) (r : Rl) : cnt o r ≤ r.sl.length := List.length_filter_le _ _
def cntI (b : Bk) (o : Str) (i : Nat) : Nat := match b.rls[i]? with
  | some r => cnt o r
  | none => 0
theorem cntI_le {b : Bk} (hs : ∀ r ∈ b.rls, r.sl.length ≤ 3) (o : Str) (i : Nat) : cntI b o i ≤ 3 := by
  unfold cntI
  split
  · rename_i r h
    have := cnt_le o r
    have := hs r (List.mem_of_getElem? h)
    omega
  · omega
section
variable {k : Nat} {S : Sto} {Q : D → Sto → Prop} {b : Bk} {ws : List Nat}
theorem is_number_w {i : Int} (h : Q (.bl true) S) : W (orc T (k + 1) n_is_number [.int i] S) Q := by
  refine orc_w (ρ := [some (.int i)]) rfl rfl rfl ?_
  show W (evSs _ b_is_number _ _) _
  simp only [b_is_number]
  mul_fits
  exact h
theorem is_between_w {i lo hi : Int} (h1 : lo ≤ i) (h2 : i ≤ hi) (h : Q (.bl true) S) : W (orc T (k + 2) n_is_between [.int i, .int lo, .int hi] S) Q := by
  refine orc_w (ρ := [some (.int i), some (.int lo), some (.int hi)]) rfl rfl rfl ?_
  show W (evSs _ b_is_between _ _) _
  simp only [b_is_between]
  mul_fits
  refine is_number_w ?_
  mul_fits
  refine w_chnB (fun _ => ?_) fun c => ?_
  · mul_fits
    rw [decide_eq_true h2]
    exact h
  · exact absurd h1 (of_decide_eq_false c)
theorem rule_at_w {i : Nat} (hi : i < b.rls.length) (h : Q (b.rls[i]).d S) : W (orc T (k + 3) n_rule_at [b.d, natD i] S) Q := by
  refine orc_w (ρ := [some b.d, some (natD i)]) rfl rfl rfl ?_
  show W (evSs _ b_rule_at _ _) _
  simp only [b_rule_at]
  mul_fits
  refine is_between_w (by omega) (by rw [List.length_map]; omega) ?_
  have k1 := at_rl hi
  mul_fits
  simp only [b_rule_at_1]
  mul_fits
  exact h
theorem slots_of_w {i : Nat} (hi : i < b.rls.length) (h : Q (.tup ((b.rls[i]).sl.map Sl.d)) S) : W (orc T (k + 4) n_slots_of [b.d, natD i] S) Q := by
  refine orc_w (ρ := [some b.d, some (natD i)]) rfl rfl rfl ?_
  show W (evSs _ b_slots_of _ _) _
  simp only [b_slots_of]
  mul_fits
  refine rule_at_w hi ?_
  mul_fits
  exact h
theorem arity_in_w {l : List (Str × Nat)} {nm : Str} (hin : nm ∈ l.map (·.1)) (h : ∀ a : Nat, (nm, a) ∈ l → Q (natD a) S) : W (orc T (k + 1) n_arity_in [.tup (l.map prD), .str nm] S) Q := by
  refine orc_w (ρ := [some (.tup (l.map prD)), some (.str nm), none, none]) rfl rfl rfl ?_
  show W (evSs _ b_arity_in _ _) _
  simp only [b_arity_in]
  mul_fits
  refine loopS_re prD (fun r ρ S' => ∃ o2 o3 : Option D, S' = S ∧ ρ = [some (.tup (l.map prD)), some (.str nm), o2, o3] ∧ nm ∈ r.map (·.1) ∧ ∀ p ∈ r, p ∈ l) ?_ ?_ l _ _ ⟨_, _, rfl, rfl, hin, fun p hp => hp⟩
  · rintro p r ρ S' ⟨o2, o3, rfl, rfl, h1, h2⟩
    refine ⟨trivial, ?_⟩
    simp only [b_arity_in_1]
    mul_fits
    refine w_ifd (fun c => ?_) fun c => ?_
    · mul_fits
      refine h _ ?_
      rw [← c]
      exact h2 p (by simp)
    · mul_fits
      refine ⟨_, _, rfl, rfl, ?_, fun q hq => h2 q (by simp [hq])⟩
      rcases List.mem_cons.mp h1 with e | h1
      · exact absurd e.symm c
      · exact h1
  · rintro ρ S' ⟨o2, o3, rfl, rfl, h1, h2⟩
    simp at h1
theorem arity_of_w {nm : Str} (hin : nm ∈ b.nms.map (·.1)) (h : ∀ a : Nat, (nm, a) ∈ b.nms → Q (natD a) S) : W (orc T (k + 2) n_arity_of [b.d, .str nm] S) Q := by
  refine orc_w (ρ := [some b.d, some (.str nm), none]) rfl rfl rfl ?_
  show W (evSs _ b_arity_of _ _) _
  simp only [b_arity_of]
  mul_fits
  refine arity_in_w hin fun a ha => ?_
  mul_fits
  simp only [b_arity_of_1]
  mul_fits
  exact h a ha
theorem rules_of_w {nm : Str} (hr : b.rls.length ≤ 1000) (hin : nm ∈ b.nms.map (·.1)) (h : Q (.tup ((rlsOf b nm).map natD)) S) : W (orc T (k + 3) n_rules_of [b.d, .str nm] S) Q := by
  refine orc_w (ρ := [some b.d, some (.str nm), none]) rfl rfl rfl ?_
  show W (evSs _ b_rules_of _ _) _
  simp only [b_rules_of]
  mul_fits
  refine arity_of_w hin fun a _ => ?_
  mul_fits
  rw [List.length_map]
  have bd : bd62 0 ∧ bd62 (b.rls.length : Int) := by unfold bd62; omega
  mul_fits
  rw [rgD0]
  refine ⟨by rw [List.length_map, List.length_range]; exact le_size (by omega), ?_⟩
  refine loopQ_f natD (fun i => decide ((b.rls[i]?).map (·.nm) = some nm)) natD (fun S' => S' = S) _ (fun i hi S' e => ?_) (fun S' e => ?_) _ rfl
  · subst e
    refine ⟨trivial, ?_⟩
    have hi := List.mem_range.mp hi
    have k1 := at_rl hi
    have e2 : decide ((b.rls[i]?).map (·.nm) = some nm) = decide ((b.rls[i]).nm = nm) := by
      rw [List.getElem?_eq_getElem hi]
      simp
    mul_fits
    rw [e2]
    refine w_ifd (fun c => ?_) fun c => ?_
    · mul_fits
      exact ⟨by rw [if_pos (decide_eq_true c)], rfl⟩
    · mul_fits
      exact ⟨by rw [if_neg (by simpa using c)], rfl⟩
  · subst e
    refine ⟨trivial, ?_⟩
    mul_fits
    exact h
theorem names_of_w (hz : b.nms.length ≤ 1000) (h : Q (.tup (b.nms.map fun p => D.str p.1)) S) : W (orc T (k + 1) n_names_of [b.d] S) Q := by
  refine orc_w (ρ := [some b.d, none, none]) rfl rfl rfl ?_
  show W (evSs _ b_names_of _ _) _
  simp only [b_names_of]
  mul_fits
  refine ⟨by rw [List.length_map]; exact le_size (by omega), ?_⟩
  refine loopQ_m prD (fun p => D.str p.1) (fun S' => S' = S) _ (fun p _ S' e => ?_) (fun S' e => ?_) _ rfl
  · subst e
    refine ⟨trivial, ?_⟩
    mul_fits
    exact ⟨rfl, rfl⟩
  · subst e
    refine ⟨trivial, ?_⟩
    mul_fits
    exact h
theorem rule_chance_w {i : Nat} (o : WsOk b ws) (hr : b.rls.length ≤ 900) (hi : i < b.rls.length) (hin : (b.rls[i]).nm ∈ b.nms.map (·.1)) (h : Q (qD (rat (wOf ws i) (Wt b ws (b.rls[i]).nm))) S) : W (orc T (k + 4) n_rule_chance [b.d, wsD ws, natD i] S) Q := by
  refine orc_w (ρ := [some b.d, some (wsD ws), some (natD i), none, none]) rfl rfl rfl ?_
  show W (evSs _ b_rule_chance _ _) _
  simp only [b_rule_chance]
  have k1 := at_rl hi
  have k2 := (o.at hi).1
  mul_fits
  refine rules_of_w (by omega) hin ?_
  mul_fits
  refine ⟨by rw [List.length_map]; have := rlsOf_len b (b.rls[i]).nm; exact le_size (by omega), ?_⟩
  refine loopQ_m natD (fun j => natD (wOf ws j)) (fun S' => S' = S) _ (fun j hj S' e => ?_) (fun S' e => ?_) _ rfl
  · subst e
    refine ⟨trivial, ?_⟩
    have k3 := (o.at (lt_of_rlsOf hj)).1
    mul_fits
    exact ⟨rfl, rfl⟩
  · subst e
    refine ⟨trivial, ?_⟩
    mul_fits
    refine v_sum (show lsOf _ (.own _) = some _ from rfl) (ints_m _ _) ?_
    rw [sum_cast]
    mul_fits
    have hm : i ∈ rlsOf b (b.rls[i]).nm := mem_rlsOf.mpr ⟨_, List.getElem?_eq_getElem hi, rfl⟩
    have h1 := Wt_pos o hm
    have h2 := Wt_bd o hr (b.rls[i]).nm
    have h3 : Wt b ws (b.rls[i]).nm < 2 ^ 3000 := Nat.lt_of_le_of_lt h2 (Nat.lt_of_lt_of_le (by decide : 270000 < 2 ^ 20) (Nat.pow_le_pow_right (by decide) (by decide)))
    refine frac_w (d := ((Wt b ws (b.rls[i]).nm : Nat) : Int)) (by omega) (by rw [Int.natAbs_natCast]; exact h3) ?_
    mul_fits
    exact h
end
/-! ### means and chances of builds, walked -/
def mnN (b : Bk) (ws : List Nat) (o : Str) (l : List Nat) : Nat := (l.map fun i => wOf ws i * cntI b o i).sum
def mean (b : Bk) (ws : List Nat) (nm o : Str) : Rat := rat (mnN b ws o (rlsOf b nm)) (Wt b ws nm)
abbrev meansD (b : Bk) (ws : List Nat) : D := .tup (b.nms.map fun p => .tup (b.nms.map fun q => qD (mean b ws p.1 q.1)))
def prodN (l : List Nat) : Nat := l.foldl (· * ·) 1
theorem prodN_app (l : List Nat) (x : Nat) : prodN (l ++ [x]) = prodN l * x := by simp [prodN]
theorem prodN_bd {c : Nat} : ∀ {l : List Nat}, (∀ x ∈ l, x < 2 ^ c) → prodN l < 2 ^ (c * l.length + 1) := by
  intro l
  suffices ∀ (l : List Nat) (a k : Nat), a < 2 ^ k → (∀ x ∈ l, x < 2 ^ c) → l.foldl (· * ·) a < 2 ^ (c * l.length + k) from fun h => this l 1 1 (by decide) h
  intro l
  induction l with
  | nil => intro a k h _; simpa using h
  | cons x l ih =>
    intro a k h hx
    rw [List.foldl_cons, List.length_cons, Nat.mul_succ]
    have := ih (a * x) (c + k) (by
      rw [Nat.pow_add, Nat.mul_comm]
      have h1 := hx x (by simp)
      exact Nat.mul_lt_mul'' h1 h) fun y hy => hx y (by simp [hy])
    rwa [Nat.add_assoc]
theorem prodN_pos : ∀ {l : List Nat}, (∀ x ∈ l, 1 ≤ x) → prodN l ≠ 0 := by
  intro l
  suffices ∀ (l : List Nat) (a : Nat), a ≠ 0 → (∀ x ∈ l, 1 ≤ x) → l.foldl (· * ·) a ≠ 0 from fun h => this l 1 (by decide) h
  intro l
  induction l with
  | nil => intro a h _; simpa using h
  | cons x l ih =>
    intro a h hx
    rw [List.foldl_cons]
    have h1 := hx x (by simp)
    exact ih _ (Nat.mul_ne_zero h (by omega)) fun y hy => hx y (by simp [hy])
def nmI (b : Bk) (i : Nat) : Str := match b.rls[i]? with
  | some r => r.nm
  | none => ""
theorem nmI_eq {b : Bk} {i : Nat} (h : i < b.rls.length) : nmI b i = (b.rls[i]).nm := by
  unfold nmI
  rw [List.getElem?_eq_getElem h]
def chH (ws : List Nat) (l : List Tr) : Nat := prodN (l.map fun x => wOf ws x.num)
def chL (b : Bk) (ws : List Nat) (l : List Tr) : Nat := prodN (l.map fun x => Wt b ws (nmI b x.num))
def chance (b : Bk) (ws : List Nat) (l : List Tr) : Rat := rat (chH ws l) (chL b ws l)
theorem chance_nil {b : Bk} {ws : List Nat} : chance b ws [] = 1 := by
  show Rat.divInt 1 1 = 1
  rfl
theorem self_rls {b : Bk} {i : Nat} (hi : i < b.rls.length) : i ∈ rlsOf b (nmI b i) := mem_rlsOf.mpr ⟨_, List.getElem?_eq_getElem hi, (nmI_eq hi).symm⟩
theorem chH_bd {b : Bk} {ws : List Nat} (o : WsOk b ws) {l : List Tr} (h : ∀ x ∈ l, x.num < b.rls.length) : chH ws l < 2 ^ (9 * l.length + 1) := by
  have := prodN_bd (c := 9) (l := l.map fun x => wOf ws x.num) fun x hx => by
    obtain ⟨y, hy, rfl⟩ := List.mem_map.mp hx
    have := (o.at (h y hy)).2.2
    omega
  rwa [List.length_map] at this
theorem chL_bd {b : Bk} {ws : List Nat} (o : WsOk b ws) (hr : b.rls.length ≤ 900) {l : List Tr} : chL b ws l < 2 ^ (19 * l.length + 1) := by
  have := prodN_bd (c := 19) (l := l.map fun x => Wt b ws (nmI b x.num)) fun x hx => by
    obtain ⟨y, hy, rfl⟩ := List.mem_map.mp hx
    have := Wt_bd o hr (nmI b y.num)
    omega
  rwa [List.length_map] at this
theorem chL_pos {b : Bk} {ws : List Nat} (o : WsOk b ws) {l : List Tr} (h : ∀ x ∈ l, x.num < b.rls.length) : chL b ws l ≠ 0 := prodN_pos fun x hx => by
  obtain ⟨y, hy, rfl⟩ := List.mem_map.mp hx
  exact Wt_pos o (self_rls (h y hy))
theorem mnN_le {b : Bk} {ws : List Nat} (o : WsOk b ws) (hs : ∀ r ∈ b.rls, r.sl.length ≤ 3) (ot : Str) {l : List Nat} (h : ∀ x ∈ l, x < b.rls.length) (hl : l.length ≤ 900) : mnN b ws ot l ≤ 810000 := by
  have h1 := sum_bd (f := fun i => wOf ws i * cntI b ot i) (c := 900) (l := l) fun x hx => by
    have h1 := (o.at (h x hx)).2.2
    have h2 := cntI_le hs ot x
    exact Nat.mul_le_mul h1 h2
  have : l.length * 900 ≤ 900 * 900 := Nat.mul_le_mul_right _ hl
  unfold mnN
  omega
theorem mnN_app (b : Bk) (ws : List Nat) (o : Str) (l : List Nat) (i : Nat) : mnN b ws o (l ++ [i]) = mnN b ws o l + wOf ws i * cntI b o i := by simp [mnN]
section
variable {k : Nat} {S : Sto} {Q : D → Sto → Prop} {b : Bk} {ws : List Nat}
theorem mean_of_w {nm ot : Str} (o : WsOk b ws) (hr : b.rls.length ≤ 900) (hs : ∀ r ∈ b.rls, r.sl.length ≤ 3) (hin : nm ∈ b.nms.map (·.1)) (h : Q (qD (mean b ws nm ot)) S) : W (orc T (k + 5) n_mean_of [b.d, wsD ws, .str nm, .str ot] S) Q := by
  refine orc_w (ρ := [some b.d, some (wsD ws), some (.str nm), some (.str ot), none, none, none, none]) rfl rfl rfl ?_
  show W (evSs _ b_mean_of _ _) _
  simp only [b_mean_of]
  mul_fits
  refine rules_of_w (by omega) hin ?_
  mul_fits
  refine loopS_e natD (fun r ρ S' => ∃ (p : List Nat) (o5 o6 o7 : Option D), S' = S ∧ p ++ r = rlsOf b nm ∧ ρ = [some b.d, some (wsD ws), some (.str nm), some (.str ot), some (qD (rat (mnN b ws ot p) (Wt b ws nm))), o5, o6, o7]) ?_ ?_ _ _ _ ⟨[], _, _, _, rfl, rfl, by rw [show mnN b ws ot [] = 0 from rfl, rat_zero]; rfl⟩
  · rintro i r ρ S' ⟨p, o5, o6, o7, rfl, hp, rfl⟩
    refine ⟨trivial, ?_⟩
    have hi : i ∈ rlsOf b nm := by rw [← hp]; simp
    have hlt := lt_of_rlsOf hi
    have hn : (b.rls[i]).nm = nm := by
      obtain ⟨r0, h1, h2⟩ := mem_rlsOf.mp hi
      rw [List.getElem?_eq_getElem hlt] at h1
      cases h1
      exact h2
    have hsl : (b.rls[i]).sl.length ≤ 3 := hs _ (List.getElem_mem hlt)
    have W1 := Wt_pos o hi
    have W2 := Wt_bd o hr nm
    have hz : ∀ x ∈ p, x < b.rls.length := fun x hx => lt_of_rlsOf (nm := nm) (by rw [← hp]; simp [hx])
    have hpl : p.length ≤ 900 := by
      have := rlsOf_len b nm
      rw [← hp, List.length_append] at this
      omega
    simp only [b_mean_of_1]
    mul_fits
    refine slots_of_w hlt ?_
    mul_fits
    refine ⟨by rw [List.length_map]; exact le_size (by omega), ?_⟩
    refine loopQ_f Sl.d (fun s => decide (s.nm = ot)) Sl.d (fun Sx => Sx = S') _ (fun s _ Sx e => ?_) (fun Sx e => ?_) _ rfl
    · subst e
      refine ⟨trivial, ?_⟩
      mul_fits
      refine w_ifd (fun c => ?_) fun c => ?_
      · mul_fits
        exact ⟨by rw [if_pos (decide_eq_true c)], rfl⟩
      · mul_fits
        exact ⟨by rw [if_neg (by simpa using c)], rfl⟩
    · subst e
      refine ⟨trivial, ?_⟩
      mul_fits
      rw [List.length_map]
      have ec : ((b.rls[i]).sl.filter fun s => decide (s.nm = ot)).length = cntI b ot i := by
        unfold cntI
        rw [List.getElem?_eq_getElem hlt]
        rfl
      rw [ec]
      have hc := cntI_le hs ot i
      refine rule_chance_w o hr hlt (by rw [hn]; exact hin) ?_
      mul_fits
      refine frac_w (d := 1) (by decide) (by decide) ?_
      mul_fits
      have w1 := (o.at hlt).2.2
      have e1 : Rat.divInt ((cntI b ot i : Nat) : Int) 1 = rat (cntI b ot i) 1 := rfl
      rw [e1, hn]
      have b1 : QB 19 (rat (wOf ws i) (Wt b ws nm)) := rat_bd (by omega) (by omega) (by omega)
      have b2 : QB 2 (rat (cntI b ot i) 1) := rat_bd (by decide) (by omega) (by decide)
      refine times_w b1 b2 (by decide) ?_
      mul_fits
      have m1 := mnN_le o hs ot hz hpl
      have b3 : QB 20 (rat (mnN b ws ot p) (Wt b ws nm)) := rat_bd (by omega) (by omega) (by omega)
      refine plus_w b3 (b1.mul b2) (by decide) ?_
      mul_fits
      refine ⟨_, .inl rfl, p ++ [i], some (natD i), some (natD (cntI b ot i)), o7, rfl, by rw [← hp]; simp, ?_⟩
      rw [rat_mul, Nat.mul_one, rat_add (by omega), ← mnN_app]
      rfl
  · rintro ρ S' ⟨p, o5, o6, o7, rfl, hp, rfl⟩
    refine ⟨trivial, ?_⟩
    rw [List.append_nil] at hp
    subst hp
    mul_fits
    simp only [b_mean_of_2]
    mul_fits
    exact h
theorem means_w (o : WsOk b ws) (hr : b.rls.length ≤ 900) (hs : ∀ r ∈ b.rls, r.sl.length ≤ 3) (hz : b.nms.length ≤ 1000) (h : Q (meansD b ws) S) : W (orc T (k + 6) n_means [b.d, wsD ws] S) Q := by
  refine orc_w (ρ := [some b.d, some (wsD ws), none, none, none]) rfl rfl rfl ?_
  show W (evSs _ b_means _ _) _
  simp only [b_means]
  mul_fits
  refine names_of_w hz ?_
  mul_fits
  refine ⟨by rw [List.length_map]; exact le_size (by omega), ?_⟩
  refine loopQ_m (fun p : Str × Nat => D.str p.1) (fun p => .tup (b.nms.map fun q => qD (mean b ws p.1 q.1))) (fun Sx => Sx = S) _ (fun p hp Sx e => ?_) (fun Sx e => ?_) _ rfl
  · subst e
    refine ⟨trivial, ?_⟩
    mul_fits
    refine ⟨by rw [List.length_map]; exact le_size (by omega), ?_⟩
    refine loopQ_m (fun p : Str × Nat => D.str p.1) (fun q => qD (mean b ws p.1 q.1)) (fun Sy => Sy = Sx) _ (fun q hq Sy e => ?_) (fun Sy e => ?_) _ rfl
    · subst e
      refine ⟨trivial, ?_⟩
      mul_fits
      refine mean_of_w o hr hs (List.mem_map_of_mem hp) ?_
      mul_fits
      exact ⟨rfl, rfl⟩
    · subst e
      refine ⟨trivial, ?_⟩
      mul_fits
      exact ⟨rfl, rfl⟩
  · subst e
    refine ⟨trivial, ?_⟩
    mul_fits
    exact h
theorem build_chance_w {t : Tr} (o : WsOk b ws) (hr : b.rls.length ≤ 900) (hn : ∀ r ∈ b.rls, r.nm ∈ b.nms.map (·.1)) (hz : t.pre.length ≤ 60) (hk : ∀ x ∈ t.pre, x.kids.length ≤ 10) (ht : ∀ x ∈ t.pre, x.num < b.rls.length) (h : Q (qD (chance b ws t.pre)) S) : W (orc T (k + 5) n_build_chance [b.d, wsD ws, t.d] S) Q := by
  refine orc_w (ρ := [some b.d, some (wsD ws), some t.d, none, none]) rfl rfl rfl ?_
  show W (evSs _ b_build_chance _ _) _
  simp only [b_build_chance]
  mul_fits
  refine flat_w (by omega) hk fun G a b' fl ha => ?_
  have k1 := fl.na
  mul_fits
  have it0 : itOf (.val (.ref a)) (S ++ G) = some ⟨t.pre.map Tr.d, some a⟩ := by simp only [itOf, sqOf, lsOf, k1, Option.map_some]
  try (refine w_may it0 ?_)
  mul_fits
  refine loopS_e Tr.d (fun r ρ S' => ∃ (p : List Tr) (o4 : Option D), S' = S ++ G ∧ p ++ r = t.pre ∧ ρ = [some b.d, some (wsD ws), some t.d, some (qD (chance b ws p)), o4]) ?_ ?_ _ _ _ ⟨[], _, rfl, rfl, by rw [chance_nil]; rfl⟩
  · rintro x r ρ S' ⟨p, o4, rfl, hp, rfl⟩
    refine ⟨k1, ?_⟩
    have hx : x ∈ t.pre := by rw [← hp]; simp
    have hlt := ht x hx
    have hpp : ∀ y ∈ p, y.num < b.rls.length := fun y hy => ht y (by rw [← hp]; simp [hy])
    have hpl : p.length ≤ 60 := by
      rw [← hp, List.length_append] at hz
      omega
    simp only [b_build_chance_1]
    mul_fits
    cases x with
    | nd n ps =>
    rw [tr_d]
    mul_fits
    have hlt : n < b.rls.length := hlt
    refine rule_chance_w o hr hlt (hn _ (List.getElem_mem hlt)) ?_
    mul_fits
    have w1 := (o.at hlt).2.2
    have W1 := Wt_pos o (self_rls hlt)
    have W2 := Wt_bd o hr (nmI b n)
    rw [← nmI_eq hlt]
    have b1 : QB 19 (rat (wOf ws n) (Wt b ws (nmI b n))) := rat_bd (by omega) (by omega) (by omega)
    have c1 := chH_bd o hpp
    have c2 := chL_bd o hr (l := p)
    have b2 : QB 1141 (chance b ws p) := rat_bd (chL_pos o hpp) (Nat.lt_of_lt_of_le c1 (Nat.pow_le_pow_right (by decide) (by omega))) (Nat.lt_of_lt_of_le c2 (Nat.pow_le_pow_right (by decide) (by omega)))
    refine times_w b2 b1 (by decide) ?_
    mul_fits
    refine ⟨_, .inl rfl, p ++ [.nd n ps], some (Tr.nd n ps).d, rfl, by rw [← hp]; simp, ?_⟩
    have e : chance b ws (p ++ [.nd n ps]) = chance b ws p * rat (wOf ws n) (Wt b ws (nmI b n)) := by
      unfold chance
      rw [rat_mul]
      unfold chH chL
      rw [List.map_append, List.map_append]
      simp only [List.map_cons, List.map_nil, prodN_app]
      rfl
    rw [e, tr_d]
    rfl
  · rintro ρ S' ⟨p, o4, rfl, hp, rfl⟩
    refine ⟨k1, ?_⟩
    rw [List.append_nil] at hp
    subst hp
    mul_fits
    simp only [b_build_chance_2]
    mul_fits
    rw [gc_app (by simp [below, belows, qD])]
    exact w_ok h
end
/-! ### the law's own sums, walked -/
def rlsTo (b : Bk) (nm : Str) (n : Nat) : List Nat := (List.range n).filter fun i => decide ((b.rls[i]?).map (·.nm) = some nm)
theorem rlsTo_succ {b : Bk} {nm : Str} {n : Nat} (h : n < b.rls.length) : rlsTo b nm (n + 1) = if (b.rls[n]).nm = nm then rlsTo b nm n ++ [n] else rlsTo b nm n := by
  unfold rlsTo
  rw [List.range_succ, List.filter_append]
  by_cases c : (b.rls[n]).nm = nm
  · rw [if_pos c, List.filter_cons_of_pos (by rw [List.getElem?_eq_getElem h]; simp [c])]
    rfl
  · rw [if_neg c, List.filter_cons_of_neg (by rw [List.getElem?_eq_getElem h]; simp [c])]
    simp
def WSums (b : Bk) (ws : List Nat) (n : Nat) (L : Ls) : Prop := ∀ nm, gS L nm = if rlsTo b nm n = [] then none else some ((rlsTo b nm n).map (wOf ws)).sum
section
variable {k : Nat} {S : Sto} {Q : D → Sto → Prop} {b : Bk} {ws : List Nat}
theorem weight_sums_w (o : WsOk b ws) (hr : b.rls.length ≤ 900) (h : ∀ L : Ls, WSums b ws b.rls.length L → Q (.ref S.length) (S ++ [.dic (encK natD L)])) : W (orc T (k + 1) n__law_weight_sums [b.d, wsD ws] S) Q := by
  refine orc_w (ρ := [some b.d, some (wsD ws), none, none, none]) rfl rfl rfl ?_
  show W (evSs _ b__law_weight_sums _ _) _
  simp only [b__law_weight_sums]
  mul_fits
  rw [List.length_map]
  have bd : bd62 0 ∧ bd62 (b.rls.length : Int) := by unfold bd62; omega
  mul_fits
  rw [rgD_0]
  refine loopS_e natD (fun r ρ S' => ∃ (c m : Nat) (L : Ls) (o3 o4 : Option D), c + m = b.rls.length ∧ r = List.range' c m ∧ S' = S ++ [.dic (encK natD L)] ∧ ρ = [some b.d, some (wsD ws), some (.ref S.length), o3, o4] ∧ L.length ≤ c ∧ WSums b ws c L) ?_ ?_ _ _ _ ⟨0, b.rls.length, [], _, _, by omega, rfl, rfl, rfl, by simp, fun nm => by simp [rlsTo, gS]⟩
  · rintro i r ρ S' ⟨c, m, L, o3, o4, hcm, hr', rfl, rfl, hl, hw⟩
    refine ⟨trivial, ?_⟩
    cases m with
    | zero => exact absurd hr' (by simp)
    | succ m =>
    rw [rg'_cons, List.cons.injEq] at hr'
    obtain ⟨rfl, rfl⟩ := hr'
    have hi : i < b.rls.length := by omega
    have k1 := at_rl hi
    have k2 := (o.at hi).1
    have kd : (S ++ [Ob.dic (encK natD L)])[S.length]? = some (.dic (encK natD L)) := get_end _ _
    have eg : (gD (encK natD L) (.inr (b.rls[i]).nm)).getD (.int 0) = natD ((gS L (b.rls[i]).nm).getD 0) := by
      rw [gD_enc]
      cases gS L (b.rls[i]).nm <;> rfl
    have kl : (encK natD L).length < sizeLine := by
      rw [encK_len]
      exact Nat.lt_of_le_of_lt hl (Nat.lt_of_lt_of_le (by omega : i < 1000) (le_size (by decide)))
    simp only [b__law_weight_sums_1]
    mul_fits
    rw [eg]
    mul_fits
    rw [set_end, show (D.int (((gS L (b.rls[i]).nm).getD 0 : Nat) + (wOf ws i : Nat) : Int)) = natD ((gS L (b.rls[i]).nm).getD 0 + wOf ws i) from by simp [natD], pD_enc]
    refine ⟨_, .inl rfl, i + 1, m, _, _, _, by omega, rfl, rfl, rfl, ?_, fun nm => ?_⟩
    · have := pS_len (b.rls[i]).nm ((gS L (b.rls[i]).nm).getD 0 + wOf ws i) L
      omega
    · rw [gS_pS, rlsTo_succ hi]
      by_cases c : (b.rls[i]).nm = nm
      · rw [if_pos c, if_pos c, if_neg (by simp), hw, c]
        split
        · rename_i e
          rw [e]
          simp
        · simp
      · rw [if_neg c, if_neg c]
        exact hw nm
  · rintro ρ S' ⟨c, m, L, o3, o4, hcm, hr', rfl, rfl, hl, hw⟩
    refine ⟨trivial, ?_⟩
    cases m with
    | succ m => exact absurd hr' (by simp [rg'_cons])
    | zero =>
    mul_fits
    simp only [b__law_weight_sums_2]
    mul_fits
    rw [gc_out (by simp [below])]
    have : c = b.rls.length := by omega
    subst this
    exact w_ok (h L hw)
theorem WSums.get {L : Ls} (h : WSums b ws b.rls.length L) (nm : Str) : gS L nm = if rlsOf b nm = [] then none else some (Wt b ws nm) := h nm
abbrev rowD (b : Bk) (ws : List Nat) (nm : Str) : List D := b.nms.map fun q => qD (mean b ws nm q.1)
theorem due_row_w {a : Nat} {L : Ls} {nm : Str} (o : WsOk b ws) (hr : b.rls.length ≤ 900) (hs : ∀ r ∈ b.rls, r.sl.length ≤ 3) (hz : b.nms.length ≤ 1000) (ka : S[a]? = some (.dic (encK natD L))) (hL : WSums b ws b.rls.length L) (h : Q (.tup (rowD b ws nm)) S) : W (orc T (k + 3) n__law_due_row [b.d, wsD ws, .ref a, .str nm] S) Q := by
  refine orc_w (ρ := [some b.d, some (wsD ws), some (.ref a), some (.str nm), none, none, none, none, none, none]) rfl rfl rfl ?_
  show W (evSs _ b__law_due_row _ _) _
  simp only [b__law_due_row]
  mul_fits
  refine loopS_e prD (fun r ρ S' => ∃ (p : List (Str × Nat)) (g : Sto) (o5 o6 o7 o8 : Option D), S' = S ++ [.lst (p.map fun q => qD (mean b ws nm q.1))] ++ g ∧ p ++ r = b.nms ∧ ρ = [some b.d, some (wsD ws), some (.ref a), some (.str nm), some (.ref S.length), o5, o6, o7, o8, none]) ?_ ?_ _ _ _ ⟨[], [], _, _, _, _, by simp, rfl, rfl⟩
  · rintro q r ρ S' ⟨p, g, o5, o6, o7, o8, rfl, hp, rfl⟩
    refine ⟨trivial, ?_⟩
    simp only [b__law_due_row_1]
    mul_fits
    refine rules_w (by omega) ?_
    have kr : (S ++ [Ob.lst (p.map fun q => qD (mean b ws nm q.1))] ++ g ++ [Ob.lst ((rlsOf b nm).map natD)])[(S ++ [Ob.lst (p.map fun q => qD (mean b ws nm q.1))] ++ g).length]? = some (.lst ((rlsOf b nm).map natD)) := get_end _ _
    mul_fits
    refine loopS_e natD (fun r' ρ S' => ∃ (p' : List Nat) (o8 : Option D), S' = S ++ [Ob.lst (p.map fun q => qD (mean b ws nm q.1))] ++ g ++ [Ob.lst ((rlsOf b nm).map natD)] ∧ p' ++ r' = rlsOf b nm ∧ ρ = [some b.d, some (wsD ws), some (.ref a), some (.str nm), some (.ref S.length), some (.str q.1), some (natD q.2), some (natD (mnN b ws q.1 p')), o8, none]) ?_ ?_ _ _ _ ⟨[], _, rfl, rfl, rfl⟩
    · rintro i r' ρ S' ⟨p', o8, rfl, hp', rfl⟩
      refine ⟨kr, ?_⟩
      have hi : i ∈ rlsOf b nm := by rw [← hp']; simp
      have hlt := lt_of_rlsOf hi
      have k1 := at_rl hlt
      have k2 := (o.at hlt).1
      have hsl : (b.rls[i]).sl.length ≤ 3 := hs _ (List.getElem_mem hlt)
      simp only [b__law_due_row_2]
      mul_fits
      refine ⟨by rw [List.length_map]; exact le_size (by omega), ?_⟩
      refine loopQ_f Sl.d (fun s => decide (s.nm = q.1)) Sl.d (fun Sx => Sx = S ++ [Ob.lst (p.map fun q => qD (mean b ws nm q.1))] ++ g ++ [Ob.lst ((rlsOf b nm).map natD)]) _ (fun s _ Sx e => ?_) (fun Sx e => ?_) _ rfl
      · subst e
        refine ⟨trivial, ?_⟩
        mul_fits
        refine w_ifd (fun c => ?_) fun c => ?_
        · mul_fits
          exact ⟨by rw [if_pos (decide_eq_true c)], rfl⟩
        · mul_fits
          exact ⟨by rw [if_neg (by simpa using c)], rfl⟩
      · subst e
        refine ⟨trivial, ?_⟩
        mul_fits
        rw [List.length_map]
        have ec : ((b.rls[i]).sl.filter fun s => decide (s.nm = q.1)).length = cntI b q.1 i := by
          unfold cntI
          rw [List.getElem?_eq_getElem hlt]
          rfl
        rw [ec]
        have hc := cntI_le hs q.1 i
        have w1 := (o.at hlt).2.2
        refine v_mul (mul_okb (m := 10) (n := 10) (by omega) (by omega) (by decide)) ?_
        mul_fits
        refine ⟨_, .inl rfl, p' ++ [i], some (natD i), rfl, by rw [← hp']; simp, ?_⟩
        rw [mnN_app]
        simp [natD]
    · rintro ρ S' ⟨p', o8, rfl, hp', rfl⟩
      refine ⟨kr, ?_⟩
      rw [List.append_nil] at hp'
      subst hp'
      mul_fits
      simp only [b__law_due_row_3]
      have kf : (S ++ [Ob.lst (p.map fun q => qD (mean b ws nm q.1))] ++ g ++ [Ob.lst ((rlsOf b nm).map natD)])[S.length]? = some (.lst (p.map fun q => qD (mean b ws nm q.1))) := by
        rw [List.append_assoc (S ++ _)]
        exact get_mid _ _ _
      have kd : (S ++ [Ob.lst (p.map fun q => qD (mean b ws nm q.1))] ++ g ++ [Ob.lst ((rlsOf b nm).map natD)])[a]? = some (.dic (encK natD L)) := by
        rw [List.append_assoc, List.append_assoc]
        exact get_pre ka
      mul_fits
      have m1 := mnN_le o hs q.1 (l := rlsOf b nm) (fun x hx => lt_of_rlsOf hx) (Nat.le_trans (rlsOf_len b nm) hr)
      have fin : ∀ x : Nat, x ≠ 0 → x < 2 ^ 20 → ((gD (encK natD L) (.inr nm)).getD (.int 1) = natD x) → Rat.divInt ((mnN b ws q.1 (rlsOf b nm) : Nat) : Int) (x : Int) = mean b ws nm q.1 → W (orc T (k + 2) n__law_frac [natD (mnN b ws q.1 (rlsOf b nm)), (gD (encK natD L) (.inr nm)).getD (.int 1)] (S ++ [Ob.lst (p.map fun q => qD (mean b ws nm q.1))] ++ g ++ [Ob.lst ((rlsOf b nm).map natD)])) fun v S2 => W (appD (.ref S.length) v S2) fun _ S3 => W (seqK (orc T (k + 2)) CSs.nil (.nx [some b.d, some (wsD ws), some (.ref a), some (.str nm), some (.ref S.length), some (.str q.1), some (natD q.2), some (natD (mnN b ws q.1 (rlsOf b nm))), o8, none]) S3) fun fl S' => ∃ ρ', (fl = .nx ρ' ∨ fl = .ct ρ') ∧ ∃ (p : List (Str × Nat)) (g : Sto) (o5 o6 o7 o8 : Option D), S' = S ++ [.lst (p.map fun q => qD (mean b ws nm q.1))] ++ g ∧ p ++ r = b.nms ∧ ρ' = [some b.d, some (wsD ws), some (.ref a), some (.str nm), some (.ref S.length), o5, o6, o7, o8, none] := by
        intro x x0 xb ex er
        rw [ex]
        refine lfrac_w (by omega) (by rw [Int.natAbs_natCast]; exact Nat.lt_of_le_of_lt m1 (Nat.lt_of_lt_of_le (by decide : 810000 < 2 ^ 20) (Nat.pow_le_pow_right (by decide) (by decide)))) (by rw [Int.natAbs_natCast]; exact Nat.lt_of_lt_of_le xb (Nat.pow_le_pow_right (by decide) (by decide))) ?_
        rw [er]
        refine v_app kf (Nat.lt_of_lt_of_le (m := 1001) (by
          rw [List.length_map]
          rw [← hp, List.length_append] at hz
          omega) (le_size (by decide))) ?_
        mul_fits
        refine ⟨_, .inl rfl, p ++ [q], g ++ [Ob.lst ((rlsOf b nm).map natD)], _, _, _, _, ?_, by rw [← hp]; simp, rfl⟩
        rw [List.append_assoc (S ++ _), set_mid]
        simp
      by_cases c : rlsOf b nm = []
      · refine fin 1 (by decide) (by decide) ?_ ?_
        · rw [gD_enc, hL.get, if_pos c]
          rfl
        · rw [c]
          show rat (mnN b ws q.1 []) 1 = mean b ws nm q.1
          unfold mean
          rw [c, show mnN b ws q.1 [] = 0 from rfl, rat_zero, rat_zero]
      · obtain ⟨i, hi⟩ := List.exists_mem_of_ne_nil _ c
        have W1 := Wt_pos o hi
        have W2 := Wt_bd o hr nm
        refine fin (Wt b ws nm) (by omega) (by omega) ?_ rfl
        rw [gD_enc, hL.get, if_neg c]
        rfl
  · rintro ρ S' ⟨p, g, o5, o6, o7, o8, rfl, hp, rfl⟩
    refine ⟨trivial, ?_⟩
    rw [List.append_nil] at hp
    subst hp
    mul_fits
    simp only [b__law_due_row_4]
    have kf : (S ++ [Ob.lst (b.nms.map fun q => qD (mean b ws nm q.1))] ++ g)[S.length]? = some (.lst (b.nms.map fun q => qD (mean b ws nm q.1))) := get_mid _ _ _
    mul_fits
    rw [List.append_assoc, gc_app (Pd.b (pd_map fun _ _ => by simp [below, belows, qD]) _)]
    exact w_ok h
theorem due_chance_w {a : Nat} {L : Ls} {t : Tr} (o : WsOk b ws) (hr : b.rls.length ≤ 900) (ka : S[a]? = some (.dic (encK natD L))) (hL : WSums b ws b.rls.length L) (hz : t.pre.length ≤ 60) (hk : ∀ x ∈ t.pre, x.kids.length ≤ 10) (ht : ∀ x ∈ t.pre, x.num < b.rls.length) (h : Q (qD (chance b ws t.pre)) S) : W (orc T (k + 4) n__law_due_chance [b.d, wsD ws, .ref a, t.d] S) Q := by
  refine orc_w (ρ := [some b.d, some (wsD ws), some (.ref a), some t.d, none, none, none]) rfl rfl rfl ?_
  show W (evSs _ b__law_due_chance _ _) _
  simp only [b__law_due_chance]
  mul_fits
  refine lflat_w (by omega) hk fun G a1 b1 c1 fl hc => ?_
  have k1 := fl.na
  mul_fits
  refine loopS_e Tr.d (fun r ρ S' => ∃ (p : List Tr) (o6 : Option D), S' = S ++ G ∧ p ++ r = t.pre ∧ ρ = [some b.d, some (wsD ws), some (.ref a), some t.d, some (natD (chH ws p)), some (natD (chL b ws p)), o6]) ?_ ?_ _ _ _ ⟨[], _, rfl, rfl, rfl⟩
  · rintro x r ρ S' ⟨p, o6, rfl, hp, rfl⟩
    refine ⟨k1, ?_⟩
    have hx : x ∈ t.pre := by rw [← hp]; simp
    have hlt := ht x hx
    have hpp : ∀ y ∈ p, y.num < b.rls.length := fun y hy => ht y (by rw [← hp]; simp [hy])
    have hpl : p.length ≤ 60 := by
      rw [← hp, List.length_append] at hz
      omega
    cases x with
    | nd n ps =>
    have hlt : n < b.rls.length := hlt
    have k2 := (o.at hlt).1
    have k3 := at_rl hlt
    have c1 := chH_bd o hpp
    have c2 := chL_bd o hr (l := p)
    have w1 := (o.at hlt).2.2
    have W1 := Wt_pos o (self_rls hlt)
    have W2 := Wt_bd o hr (nmI b n)
    have kd : (S ++ G)[a]? = some (.dic (encK natD L)) := get_pre ka
    have eg : gD (encK natD L) (.inr (b.rls[n]).nm) = some (natD (Wt b ws (nmI b n))) := by
      rw [gD_enc, hL.get, ← nmI_eq hlt, if_neg (List.ne_nil_of_mem (self_rls hlt))]
      rfl
    simp only [b__law_due_chance_1]
    rw [tr_d]
    mul_fits
    refine v_mul (mul_okb (m := 9 * p.length + 1) (n := 10) (by rw [Int.natAbs_natCast]; exact c1) (by omega) (by omega)) ?_
    mul_fits
    refine v_mul (mul_okb (m := 19 * p.length + 1) (n := 20) (by rw [Int.natAbs_natCast]; exact c2) (by omega) (by omega)) ?_
    mul_fits
    refine ⟨_, .inl rfl, p ++ [.nd n ps], some (Tr.nd n ps).d, rfl, by rw [← hp]; simp, ?_⟩
    have e1 : chH ws (p ++ [.nd n ps]) = chH ws p * wOf ws n := by
      unfold chH
      rw [List.map_append, List.map_cons, List.map_nil, prodN_app]
      rfl
    have e2 : chL b ws (p ++ [.nd n ps]) = chL b ws p * Wt b ws (nmI b n) := by
      unfold chL
      rw [List.map_append, List.map_cons, List.map_nil, prodN_app]
      rfl
    rw [e1, e2, tr_d]
    simp [natD]
  · rintro ρ S' ⟨p, o6, rfl, hp, rfl⟩
    refine ⟨k1, ?_⟩
    rw [List.append_nil] at hp
    subst hp
    have c1 := chH_bd o ht
    have c2 := chL_bd o hr (l := t.pre)
    have c3 := chL_pos o ht
    mul_fits
    simp only [b__law_due_chance_2]
    mul_fits
    refine lfrac_w (by omega) (by rw [Int.natAbs_natCast]; exact Nat.lt_of_lt_of_le c1 (Nat.pow_le_pow_right (by decide) (by omega))) (by rw [Int.natAbs_natCast]; exact Nat.lt_of_lt_of_le c2 (Nat.pow_le_pow_right (by decide) (by omega))) ?_
    mul_fits
    rw [gc_app (by simp [below, belows, qD])]
    exact w_ok h
theorem is_row_w {l : List Rat} (hz : l.length ≤ 1000) (hq : ∀ q ∈ l, QB 3000 q) (h : Q (.bl true) S) : W (orc T (k + 3) n__law_is_row [.tup (l.map qD), .tup (l.map qD)] S) Q := by
  refine orc_w (ρ := [some (.tup (l.map qD)), some (.tup (l.map qD)), none]) rfl rfl rfl ?_
  show W (evSs _ b__law_is_row _ _) _
  simp only [b__law_is_row]
  mul_fits
  rw [List.length_map]
  refine w_if_F (by simp) ?_
  mul_fits
  simp only [b__law_is_row_1]
  mul_fits
  rw [List.length_map]
  have bd : bd62 0 ∧ bd62 (l.length : Int) := by unfold bd62; omega
  mul_fits
  rw [rgD0]
  refine ⟨by rw [List.length_map, List.length_range]; exact le_size (by omega), ?_⟩
  refine loopQ_m natD (fun _ => D.bl true) (fun Sx => Sx = S) _ (fun i hi Sx e => ?_) (fun Sx e => ?_) _ rfl
  · subst e
    refine ⟨trivial, ?_⟩
    have hi := List.mem_range.mp hi
    have k1 := at_map qD _ _ hi
    mul_fits
    refine is_frac_w (hq _ (List.getElem_mem hi)) (Nat.le_refl _) ?_
    mul_fits
    refine w_eqq ?_
    mul_fits
    exact ⟨by simp, rfl⟩
  · subst e
    refine ⟨trivial, ?_⟩
    mul_fits
    refine v_all (show lsOf _ (.own _) = some _ from rfl) (bools_m (fun _ => true) _) ?_
    rw [all_m]
    mul_fits
    rw [List.all_eq_true.mpr fun _ _ => rfl]
    exact h
end
/-! ### least builds are small where most names have a rule without slots -/
def leafB (b : Bk) (s : Str) : Bool := b.rls.any fun r => decide (r.nm = s) && r.sl.isEmpty
def exN (b : Bk) : List Str := (b.nms.map (·.1)).filter fun s => !leafB b s
theorem fold_le (rs : List Rl) (l : Ls) : LeL l (rs.foldl stp l) := foldl_inv (LeL l) _ _ .refl fun r _ m h => h.trans (stp_le m r)
theorem stp_at {l : Ls} {r : Rl} (hi : inL l r = true) : ∃ w, gS (stp l r) r.nm = some w ∧ w ≤ 1 + smL l r := by
  unfold stp
  rw [if_pos hi]
  split
  · exact ⟨_, by rw [gS_pS, if_pos rfl], Nat.le_refl _⟩
  · rename_i w e
    split
    · exact ⟨_, by rw [gS_pS, if_pos rfl], Nat.le_refl _⟩
    · exact ⟨w, e, by omega⟩
theorem trn_at {b : Bk} {l : Ls} {r : Rl} (hr : r ∈ b.rls) (hi : inL l r = true) : ∃ w, gS (trn b l) r.nm = some w ∧ w ≤ 1 + smL l r := by
  obtain ⟨as, bs, e⟩ := List.append_of_mem hr
  unfold trn
  rw [e, List.foldl_append, List.foldl_cons]
  obtain ⟨h1, h2⟩ := inL_le (fold_le as l) hi
  obtain ⟨w, e1, e2⟩ := stp_at h1
  obtain ⟨w', e3, e4⟩ := fold_le bs _ _ _ e1
  exact ⟨w', e3, by omega⟩
theorem countP_lt {α : Type} {p q : α → Bool} : ∀ {l : List α} {x : α}, (∀ y ∈ l, p y = true → q y = true) → x ∈ l → q x = true → p x = false → l.countP p < l.countP q
  | y :: l, x, h, hx, hq, hp => by
    have hmono : l.countP p ≤ l.countP q := List.countP_mono_left fun z hz => h z (by simp [hz])
    rcases List.mem_cons.mp hx with rfl | hx
    · rw [List.countP_cons_of_pos hq, List.countP_cons_of_neg (by simp [hp])]
      omega
    · have ih := countP_lt (fun z hz => h z (by simp [hz])) hx hq hp
      by_cases c : p y = true
      · rw [List.countP_cons_of_pos c, List.countP_cons_of_pos (h y (by simp) c)]
        omega
      · rw [List.countP_cons_of_neg c]
        rw [List.countP_cons]
        omega
def Bd : Nat → Nat
  | 0 => 1
  | n + 1 => 1 + 3 * Bd n
theorem Bd_mono : ∀ {m n : Nat}, m ≤ n → Bd m ≤ Bd n
  | m, 0, h => by
    have : m = 0 := by omega
    subst this
    exact Nat.le_refl _
  | m, n + 1, h => by
    by_cases c : m = n + 1
    · subst c
      exact Nat.le_refl _
    · have := Bd_mono (m := m) (n := n) (by omega)
      rw [Bd]
      omega
structure NmIn (b : Bk) : Prop where
  rn : ∀ r ∈ b.rls, r.nm ∈ b.nms.map (·.1)
  sn : ∀ r ∈ b.rls, ∀ s ∈ r.sl, s.nm ∈ b.nms.map (·.1)
  s3 : ∀ r ∈ b.rls, r.sl.length ≤ 3
def below_ (L : Ls) (v : Nat) (x : Str) : Bool := match gS L x with
  | some w => decide (w < v)
  | none => false
theorem smL_le {l : Ls} {r : Rl} {c : Nat} (h3 : r.sl.length ≤ 3) (h : ∀ s ∈ r.sl, ∃ u, gS l s.nm = some u ∧ u ≤ c) : inL l r = true ∧ smL l r ≤ 3 * c := by
  refine ⟨inL_iff.mpr fun s hs => ⟨_, (h s hs).choose_spec.1⟩, ?_⟩
  have := sum_bd (f := fun s : Sl => (gS l s.nm).getD 0) (c := c) (l := r.sl) fun s hs => by
    obtain ⟨u, e1, e2⟩ := h s hs
    show (gS l s.nm).getD 0 ≤ c
    rw [e1]
    exact e2
  unfold smL
  have q : r.sl.length * c ≤ 3 * c := Nat.mul_le_mul_right _ h3
  omega
theorem leaf_at {b : Bk} {s : Str} (h : leafB b s = true) : ∃ u, gS (lsts b 1) s = some u ∧ u ≤ 1 := by
  obtain ⟨r, hr, q⟩ := List.any_eq_true.mp h
  simp only [Bool.and_eq_true, decide_eq_true_eq, List.isEmpty_iff] at q
  obtain ⟨q1, q2⟩ := q
  have hi : inL [] r = true := by simp [inL, q2]
  obtain ⟨w, e1, e2⟩ := trn_at hr hi
  rw [q1] at e1
  exact ⟨w, e1, by simpa [smL, q2] using e2⟩
theorem not_ex {b : Bk} {s : Str} (hn : s ∈ b.nms.map (·.1)) (h : s ∉ exN b) : leafB b s = true := by
  cases c : leafB b s with
  | true => rfl
  | false => exact absurd (List.mem_filter.mpr ⟨hn, by simp [c]⟩) h
theorem mem_smL {l : Ls} {r : Rl} {s : Sl} {u : Nat} (hs : s ∈ r.sl) (h : gS l s.nm = some u) : u ≤ smL l r := by
  have := mem_sum (f := fun s : Sl => (gS l s.nm).getD 0) hs
  simp only [h] at this
  exact this
theorem steps_bd {b : Bk} (o : NmIn b) : ∀ (v : Nat) (s : Str), gS (lstB b) s = some v → (s ∈ exN b → ∃ u, gS (lsts b ((exN b).countP (below_ (lstB b) v) + 2)) s = some u ∧ u ≤ Bd ((exN b).countP (below_ (lstB b) v) + 1)) ∧ (s ∉ exN b → ∃ u, gS (lsts b 1) s = some u ∧ u ≤ 1) := by
  intro v
  induction v using Nat.strongRecOn with
  | _ v ih =>
  intro s hs
  obtain ⟨r, hr, hn, hi, hv⟩ := lstB_good b s v hs
  refine ⟨fun hex => ?_, fun hex => leaf_at (not_ex (by rw [← hn]; exact o.rn r hr) hex)⟩
  have hsl : ∀ x ∈ r.sl, ∃ u, gS (lsts b ((exN b).countP (below_ (lstB b) v) + 1)) x.nm = some u ∧ u ≤ Bd ((exN b).countP (below_ (lstB b) v)) := by
    intro x hx
    obtain ⟨w, hw⟩ := inL_iff.mp hi x hx
    have hwv : w < v := by
      have := mem_smL hx hw
      omega
    obtain ⟨i1, i2⟩ := ih w hwv x.nm hw
    by_cases c : x.nm ∈ exN b
    · obtain ⟨u, e1, e2⟩ := i1 c
      have hlt : (exN b).countP (below_ (lstB b) w) < (exN b).countP (below_ (lstB b) v) := by
        refine countP_lt (fun y _ hy => ?_) c (by simp [below_, hw, hwv]) (by simp [below_, hw])
        unfold below_ at hy ⊢
        split at hy
        · simp only [decide_eq_true_eq] at hy ⊢
          omega
        · exact absurd hy (by simp)
      obtain ⟨u', e3, e4⟩ := lsts_le b (show (exN b).countP (below_ (lstB b) w) + 2 ≤ (exN b).countP (below_ (lstB b) v) + 1 by omega) _ _ e1
      exact ⟨u', e3, Nat.le_trans e4 (Nat.le_trans e2 (Bd_mono (by omega)))⟩
    · obtain ⟨u, e1, e2⟩ := i2 c
      obtain ⟨u', e3, e4⟩ := lsts_le b (show 1 ≤ (exN b).countP (below_ (lstB b) v) + 1 by omega) _ _ e1
      have : Bd 0 ≤ Bd ((exN b).countP (below_ (lstB b) v)) := Bd_mono (by omega)
      rw [Bd] at this
      exact ⟨u', e3, by omega⟩
  obtain ⟨h1, h2⟩ := smL_le (o.s3 r hr) hsl
  obtain ⟨w, e1, e2⟩ := trn_at hr h1
  rw [hn] at e1
  exact ⟨w, e1, by rw [Bd]; omega⟩
theorem leaf_ex {b : Bk} (o : NmIn b) : ∀ (v : Nat) (s : Str), gS (lstB b) s = some v → ∃ z ∈ b.nms.map (·.1), z ∉ exN b := by
  intro v
  induction v using Nat.strongRecOn with
  | _ v ih =>
  intro s hs
  obtain ⟨r, hr, hn, hi, hv⟩ := lstB_good b s v hs
  have hnm : s ∈ b.nms.map (·.1) := by rw [← hn]; exact o.rn r hr
  cases e : r.sl with
  | nil =>
    refine ⟨s, hnm, fun h => ?_⟩
    have h2 := (List.mem_filter.mp h).2
    have : leafB b s = true := List.any_eq_true.mpr ⟨r, hr, by simp [hn, e]⟩
    rw [this] at h2
    exact absurd h2 (by decide)
  | cons x xs =>
    have hx : x ∈ r.sl := by rw [e]; simp
    obtain ⟨w, hw⟩ := inL_iff.mp hi x hx
    have := mem_smL hx hw
    exact ih w (by omega) x.nm hw
theorem least_bd {b : Bk} (o : NmIn b) (h3 : (exN b).length ≤ 3) {s : Str} {v : Nat} (h : gS (lstB b) s = some v) : v ≤ 40 := by
  obtain ⟨z, z1, z2⟩ := leaf_ex o v s h
  have hlen : (exN b).length < b.nms.length := by
    have := List.length_filter_lt_length_iff_exists (p := fun s => !leafB b s) (l := b.nms.map (·.1)) |>.mpr ⟨z, z1, fun q => z2 (List.mem_filter.mpr ⟨z1, q⟩)⟩
    rw [List.length_map] at this
    exact this
  obtain ⟨i1, i2⟩ := steps_bd o v s h
  by_cases c : s ∈ exN b
  · obtain ⟨u, e1, e2⟩ := i1 c
    have hlt : (exN b).countP (below_ (lstB b) v) < (exN b).countP (fun _ => true) := countP_lt (fun _ _ _ => rfl) c rfl (by simp [below_, h])
    rw [List.countP_true] at hlt
    obtain ⟨u', e3, e4⟩ := lsts_le b (show (exN b).countP (below_ (lstB b) v) + 2 ≤ b.nms.length by omega) _ _ e1
    have e5 : gS (lstB b) s = some u' := e3
    rw [h] at e5
    cases e5
    have : Bd ((exN b).countP (below_ (lstB b) v) + 1) ≤ Bd 3 := Bd_mono (by omega)
    have q : Bd 3 = 40 := rfl
    omega
  · obtain ⟨u, e1, e2⟩ := i2 c
    obtain ⟨u', e3, e4⟩ := lsts_le b (show 1 ≤ b.nms.length by omega) _ _ e1
    have e5 : gS (lstB b) s = some u' := e3
    rw [h] at e5
    cases e5
    omega
/-- one rule taken out -/
theorem filter_one {p q : Str → Bool} {s0 : Str} : ∀ {l : List Str}, l.Nodup → (∀ s ∈ l, s ≠ s0 → p s = true → q s = true) → (l.filter p).length ≤ (l.filter q).length + 1
  | [], _, _ => by simp
  | y :: l, nd, h => by
    rw [List.nodup_cons] at nd
    by_cases c : y = s0
    · have : (l.filter p).length ≤ (l.filter q).length := by
        rw [← List.countP_eq_length_filter, ← List.countP_eq_length_filter]
        refine List.countP_mono_left fun z hz hp => h z (by simp [hz]) (fun e => nd.1 (by rw [c, ← e]; exact hz)) hp
      rw [List.filter_cons, List.filter_cons]
      split <;> split <;> (try simp only [List.length_cons]) <;> omega
    · have ih := filter_one (s0 := s0) nd.2 fun s hs => h s (by simp [hs])
      have hy := h y (by simp) c
      rw [List.filter_cons, List.filter_cons]
      by_cases cp : p y = true
      · rw [if_pos cp, if_pos (hy cp), List.length_cons, List.length_cons]
        omega
      · rw [if_neg cp]
        split
        · rw [List.length_cons]
          omega
        · exact ih
/-! ### a book for chances, its weights and builds, drawn -/
structure CB (b : Bk) (c : Nat) : Prop where
  nmin : NmIn b
  ex : (exN b).length ≤ c
  n0 : b.nms.length ≠ 0
  nl : b.nms.length ≤ 26
  rl : b.rls.length ≤ 900
theorem nodup_of_hd {l : List Str} (h : (l.map hd).Nodup) : l.Nodup := by
  induction l with
  | nil => exact .nil
  | cons x l ih =>
    rw [List.map_cons, List.nodup_cons] at h
    exact List.nodup_cons.mpr ⟨fun hx => h.1 (List.mem_map_of_mem hx), ih h.2⟩
theorem cut_drop {l : List D} {m : Nat} : PQ.cutD l (some (m : Int)) none = l.drop m := by
  unfold PQ.cutD
  simp only [HT.sIx]
  rw [if_neg (by omega), Int.toNat_natCast]
  by_cases h : m ≤ l.length
  · rw [Nat.min_eq_left h, List.take_of_length_le (by simp)]
  · rw [Nat.min_eq_right (by omega), Nat.sub_self, List.take_zero, List.drop_of_length_le (by omega)]
theorem cut_ok {b : Bk} {c g : Nat} (nd : (b.nms.map (·.1)).Nodup) (o : CB b c) : CB ⟨b.top, b.nms, b.rls.take g ++ b.rls.drop (g + 1)⟩ (c + 1) := by
  have sub : ∀ r ∈ b.rls.take g ++ b.rls.drop (g + 1), r ∈ b.rls := fun r hr => by
    rcases List.mem_append.mp hr with h | h
    · exact List.mem_of_mem_take h
    · exact List.mem_of_mem_drop h
  refine ⟨⟨fun r hr => o.nmin.rn r (sub r hr), fun r hr => o.nmin.sn r (sub r hr), fun r hr => o.nmin.s3 r (sub r hr)⟩, ?_, o.n0, o.nl, ?_⟩
  · refine Nat.le_trans (filter_one (s0 := nmI b g) (q := fun s => !leafB b s) nd fun s _ hs0 hp => ?_) (Nat.succ_le_succ o.ex)
    cases e : leafB b s with
    | false => rfl
    | true =>
      exfalso
      obtain ⟨r, hr, q⟩ := List.any_eq_true.mp e
      have hk : r ∈ b.rls.take g ++ b.rls.drop (g + 1) := by
        obtain ⟨i, hi, hri⟩ := List.mem_iff_getElem.mp hr
        have hne : i ≠ g := fun z => hs0 (by
          subst z
          rw [nmI_eq hi, hri]
          simp only [Bool.and_eq_true, decide_eq_true_eq] at q
          exact q.1.symm)
        rw [List.mem_append]
        by_cases lt : i < g
        · left
          rw [← hri]
          exact List.mem_take_iff_getElem.mpr ⟨i, by omega, rfl⟩
        · right
          rw [← hri]
          exact List.mem_drop_iff_getElem.mpr ⟨i - (g + 1), by omega, by congr 1; omega⟩
      have : leafB ⟨b.top, b.nms, b.rls.take g ++ b.rls.drop (g + 1)⟩ s = true := List.any_eq_true.mpr ⟨r, hk, q⟩
      rw [this] at hp
      exact absurd hp (by decide)
  · have := o.rl
    show (b.rls.take g ++ b.rls.drop (g + 1)).length ≤ 900
    rw [List.length_append, List.length_take, List.length_drop]
    omega
theorem fold_size : ∀ (n : Nat) (a : Array Nat), ((List.replicate n (#[95] : Array Nat)).foldl (· ++ ·) a).size = a.size + n
  | 0, a => by simp
  | n + 1, a => by
    rw [List.replicate_succ, List.foldl_cons, fold_size n]
    simp
    omega
theorem us_len (n : Int) : (Txt.mul "_" n).length ≤ n.toNat := by
  unfold Txt.mul
  split
  · exact Nat.zero_le _
  · split
    · have e : Str.length "_" = 1 := rfl
      rw [e]
      omega
    · show ((List.replicate n.toNat (#[95] : Array Nat)).foldl (· ++ ·) #[]).size ≤ n.toNat
      rw [fold_size]
      simp
def lng (s : Str) : Str := s ++ Txt.mul "_" (60 - (s.length : Int))
def lngS (s : Sl) : Sl := ⟨lng s.nm, s.pl⟩
def lngR (r : Rl) : Rl := ⟨lng r.nm, r.ms, r.ts, r.sl.map lngS⟩
def lngB (b : Bk) : Bk := ⟨lng b.top, b.nms.map fun p => (lng p.1, p.2), b.rls.map lngR⟩
theorem lng_ok {b : Bk} {c : Nat} (o : CB b c) : CB (lngB b) c := by
  have mem : ∀ s ∈ b.nms.map (·.1), lng s ∈ (lngB b).nms.map (·.1) := fun s hs => by
    obtain ⟨p, hp, rfl⟩ := List.mem_map.mp hs
    show lng p.1 ∈ (b.nms.map fun p => (lng p.1, p.2)).map (·.1)
    rw [List.map_map]
    exact List.mem_map.mpr ⟨p, hp, rfl⟩
  refine ⟨⟨fun r hr => ?_, fun r hr s hs => ?_, fun r hr => ?_⟩, ?_, ?_, ?_, ?_⟩
  · obtain ⟨q, hq, rfl⟩ := List.mem_map.mp hr
    exact mem _ (o.nmin.rn q hq)
  · obtain ⟨q, hq, rfl⟩ := List.mem_map.mp hr
    obtain ⟨z, hz, rfl⟩ := List.mem_map.mp hs
    exact mem _ (o.nmin.sn q hq z hz)
  · obtain ⟨q, hq, rfl⟩ := List.mem_map.mp hr
    show (q.sl.map lngS).length ≤ 3
    rw [List.length_map]
    exact o.nmin.s3 q hq
  · refine Nat.le_trans ?_ o.ex
    show (((b.nms.map fun p => (lng p.1, p.2)).map (·.1)).filter fun s => !leafB (lngB b) s).length ≤ ((b.nms.map (·.1)).filter fun s => !leafB b s).length
    rw [← List.countP_eq_length_filter, ← List.countP_eq_length_filter, List.map_map, List.countP_map, List.countP_map]
    refine List.countP_mono_left fun p hp h => ?_
    show (!leafB b p.1) = true
    cases e : leafB b p.1 with
    | false => rfl
    | true =>
      exfalso
      obtain ⟨r, hr, q⟩ := List.any_eq_true.mp e
      simp only [Bool.and_eq_true, decide_eq_true_eq, List.isEmpty_iff] at q
      have : leafB (lngB b) (lng p.1) = true := List.any_eq_true.mpr ⟨lngR r, List.mem_map_of_mem hr, by simp [lngR, q.1, q.2]⟩
      have h : (!leafB (lngB b) (lng p.1)) = true := h
      rw [this] at h
      exact absurd h (by decide)
  · show (b.nms.map _).length ≠ 0
    rw [List.length_map]
    exact o.n0
  · show (b.nms.map _).length ≤ 26
    rw [List.length_map]
    exact o.nl
  · show (b.rls.map lngR).length ≤ 900
    rw [List.length_map]
    exact o.rl
section
variable {k : Nat} {R : Sto} {Q : D → Sto → Prop} {d : DS} {m : Int} {S : Sto}
theorem drawN {m : Nat} (h1 : 0 < m) (h2 : m < 1073741824) (h : ∀ (n : Nat) (d' : DS), n < m → Q (natD n) (d'.st R)) : W (orc T (k + 1) n__law_draw [.ref 1, natD m] (d.st R)) Q := draw_ (by omega) (by omega) fun y d' y0 y1 => by
  obtain ⟨n, rfl⟩ := Int.eq_ofNat_of_zero_le y0
  exact h n d' (by omega)
theorem long_name_w {s : Str} (hl : s.length ≤ 60) (h : Q (.str (lng s)) S) : W (orc T (k + 1) n__law_long_name [.str s] S) Q := by
  refine orc_w (ρ := [some (.str s)]) rfl rfl rfl ?_
  show W (evSs _ b__law_long_name _ _) _
  simp only [b__law_long_name]
  have k1 : s.length ≤ sizeLine := le_size (by omega)
  mul_fits
  refine v_mulS ⟨?_, fun h1 _ => ?_, fun _ _ => ?_⟩ ?_
  · simp only [Bool.or_eq_false_iff, decide_eq_false_iff_not]
    constructor <;> omega
  · have : 1 ≤ (2 ^ 63 - 1) / (60 - (s.length : Int)) := Int.le_ediv_of_mul_le (by omega) (by omega)
    have e : ((Str.length "_" : Nat) : Int) = 1 := rfl
    rw [e]
    omega
  · have e : Str.length "_" = 1 := rfl
    rw [e]
    refine decide_eq_false (Nat.not_lt.mpr ?_)
    exact le_size (by omega)
  have hm : (Txt.mul "_" (60 - (s.length : Int))).length ≤ 60 := by
    have := us_len (60 - (s.length : Int))
    omega
  refine v_addS (le_size (by omega)) ?_
  mul_fits
  exact h
end
/-! ### a book for chances, drawn: the walk -/
section
variable {k : Nat} {R : Sto} {Q : D → Sto → Prop} {d : DS} {m : Int} {S : Sto}
structure LenOk (b : Bk) : Prop where
  nm : ∀ p ∈ b.nms, p.1.length ≤ 60
  top : b.top.length ≤ 60
  rn : ∀ r ∈ b.rls, r.nm.length ≤ 60
  sn : ∀ r ∈ b.rls, ∀ s ∈ r.sl, s.nm.length ≤ 60
theorem long_book_w {b : Bk} {c : Nat} (o : CB b c) (l : LenOk b) (h : Q (lngB b).d S) : W (orc T (k + 2) n__law_long_book [b.d] S) Q := by
  refine orc_w (ρ := [some b.d, none, none, none, none, none, none, none, none, none]) rfl rfl rfl ?_
  show W (evSs _ b__law_long_book _ _) _
  simp only [b__law_long_book]
  mul_fits
  have nl := o.nl
  have rl := o.rl
  refine ⟨by rw [List.length_map]; exact le_size (by omega), ?_⟩
  refine loopQ_m prD (fun p => prD (lng p.1, p.2)) (fun S' => S' = S) _ (fun p hp S' e => ?_) (fun S' e => ?_) _ rfl
  · subst e
    refine ⟨trivial, ?_⟩
    mul_fits
    refine long_name_w (l.nm p hp) ?_
    mul_fits
    exact ⟨rfl, rfl⟩
  subst e
  refine ⟨trivial, ?_⟩
  mul_fits
  refine loopS_e Rl.d (fun r ρ Sx => ∃ (p : List Rl) (o3 o4 o5 o6 o7 : Option D), Sx = S' ++ [.lst (p.map fun r => (lngR r).d)] ∧ p ++ r = b.rls ∧ ρ = [some b.d, some (.tup (b.nms.map fun p => prD (lng p.1, p.2))), some (.ref S'.length), o3, o4, o5, o6, o7, none, none]) ?_ ?_ _ _ _ ⟨[], _, _, _, _, _, rfl, rfl, rfl⟩
  · rintro r rr ρ Sx ⟨p, o3, o4, o5, o6, o7, rfl, hp, rfl⟩
    refine ⟨trivial, ?_⟩
    have hr : r ∈ b.rls := by rw [← hp]; simp
    have h3 := o.nmin.s3 r hr
    have hl : p.length ≤ 900 := by
      rw [← hp, List.length_append] at rl
      omega
    simp only [b__law_long_book_1]
    mul_fits
    refine ⟨by rw [List.length_map]; exact le_size (by omega), ?_⟩
    refine loopQ_m Sl.d (fun s => (lngS s).d) (fun Sy => Sy = S' ++ [.lst (p.map fun r => (lngR r).d)]) _ (fun s hs Sy e => ?_) (fun Sy e => ?_) _ rfl
    · subst e
      refine ⟨trivial, ?_⟩
      mul_fits
      refine long_name_w (l.sn r hr s hs) ?_
      mul_fits
      exact ⟨rfl, rfl⟩
    · subst e
      refine ⟨trivial, ?_⟩
      have kl : (S' ++ [Ob.lst (p.map fun r => (lngR r).d)])[S'.length]? = some (.lst (p.map fun r => (lngR r).d)) := get_end _ _
      mul_fits
      refine long_name_w (l.rn r hr) ?_
      mul_fits
      refine v_app kl (Nat.lt_of_lt_of_le (m := 1001) (by rw [List.length_map]; omega) (le_size (by decide))) ?_
      rw [set_end]
      mul_fits
      refine ⟨_, .inl rfl, p ++ [r], _, _, _, _, _, ?_, by rw [← hp]; simp, rfl⟩
      simp [lngR]
  · rintro ρ Sx ⟨p, o3, o4, o5, o6, o7, rfl, hp, rfl⟩
    refine ⟨trivial, ?_⟩
    rw [List.append_nil] at hp
    subst hp
    have kl : (S' ++ [Ob.lst (b.rls.map fun r => (lngR r).d)])[S'.length]? = some (.lst (b.rls.map fun r => (lngR r).d)) := get_end _ _
    simp only [b__law_long_book_2]
    mul_fits
    refine long_name_w l.top ?_
    mul_fits
    have e : D.tup [.str (lng b.top), .tup (b.nms.map fun p => prD (lng p.1, p.2)), .tup (b.rls.map fun r => (lngR r).d)] = (lngB b).d := by
      simp [lngB, List.map_map, Function.comp_def]
    rw [e, gc_app ((pd_bk _).b _)]
    exact w_ok h
theorem cb_of {b : Bk} {c : Nat} (o : BkOk b) (h1 : b.nms.length ≠ 0) (h2 : b.nms.length ≤ 26) (h3 : b.rls.length ≤ 900) (hl : ∀ p ∈ b.nms, ∃ r ∈ b.rls, r.nm = p.1 ∧ r.sl = []) : CB b 0 ∧ LenOk b ∧ (b.nms.map (·.1)).Nodup := by
  have mem : ∀ {s : Str} {a : Nat}, (s, a) ∈ b.nms → s ∈ b.nms.map (·.1) := fun h => List.mem_map.mpr ⟨_, h, rfl⟩
  refine ⟨⟨⟨fun r hr => ?_, fun r hr s hs => ?_, fun r hr => (o.rl r hr).sl⟩, ?_, h1, h2, h3⟩, ⟨fun p hp => o.nd.le _ (mem hp), o.nd.le _ o.top, fun r hr => ?_, fun r hr s hs => ?_⟩, nodup_of_hd o.nd.nd⟩
  · obtain ⟨a, h, _⟩ := (o.rl r hr).ex
    exact mem h
  · obtain ⟨a, _, h, _⟩ := (o.rl r hr).ex
    obtain ⟨a', h, _⟩ := h s hs
    exact mem h
  · have : exN b = [] := List.filter_eq_nil_iff.mpr fun s hs => by
      obtain ⟨p, hp, rfl⟩ := List.mem_map.mp hs
      obtain ⟨r, hr, e1, e2⟩ := hl p hp
      have : leafB b p.1 = true := List.any_eq_true.mpr ⟨r, hr, by simp [e1, e2]⟩
      simp [this]
    rw [this]
    exact Nat.le_refl _
  · obtain ⟨a, h, _⟩ := (o.rl r hr).ex
    exact o.nd.le _ (mem h)
  · obtain ⟨a, _, h, _⟩ := (o.rl r hr).ex
    obtain ⟨a', h, _⟩ := h s hs
    exact o.nd.le _ (mem h)
theorem cut_len {b : Bk} {g : Nat} (l : LenOk b) : LenOk ⟨b.top, b.nms, b.rls.take g ++ b.rls.drop (g + 1)⟩ := by
  have sub : ∀ r ∈ b.rls.take g ++ b.rls.drop (g + 1), r ∈ b.rls := fun r hr => by
    rcases List.mem_append.mp hr with h | h
    · exact List.mem_of_mem_take h
    · exact List.mem_of_mem_drop h
  exact ⟨l.nm, l.top, fun r hr => l.rn r (sub r hr), fun r hr => l.sn r (sub r hr)⟩
theorem cb3_w {b : Bk} {o1 o2 o3 o4 o6 o7 : Option D} (o : CB b 3) (l : LenOk b) (h : ∀ (b : Bk) (d' : DS), CB b 3 → Q b.d (d'.st R)) : W (evSs (orc T (k + 2)) b__law_chance_book_3 [some (.ref 1), o1, o2, o3, o4, some b.d, o6, o7] (d.st R)) fun fl S' => W (retK fl S') Q := by
  simp only [b__law_chance_book_3]
  mul_fits
  refine drawN (m := 12) (by decide) (by decide) fun n d1 hn => ?_
  mul_fits
  refine w_ifd (fun c => ?_) fun c => ?_
  · mul_fits
    refine long_book_w o l ?_
    mul_fits
    exact h _ _ (lng_ok o)
  · mul_fits
    exact h _ _ o
theorem cb1_w {b1 b2 many more : Nat} {o5 o6 o7 : Option D} (h1 : 1 ≤ many ∧ many ≤ 26) (h2 : more ≤ 500) (hm : Row R b1) (hs : Row R b2) (h : ∀ (b : Bk) (d' : DS), CB b 3 → Q b.d (d'.st R)) : W (evSs (orc T (k + 6)) b__law_chance_book_1 [some (.ref 1), some (.ref (b1 + 2)), some (.ref (b2 + 2)), some (natD many), some (natD more), o5, o6, o7] (d.st R)) fun fl S' => W (retK fl S') Q := by
  simp only [b__law_chance_book_1]
  mul_fits
  refine drawN (m := 3) (by decide) (by decide) fun n d1 hn => ?_
  mul_fits
  have e1 : (D.int (1 + ((n : Nat) : Int))) = natD (1 + n) := by simp [natD]
  rw [e1]
  refine book_w (arity := 3) h1 (by decide) h2 ⟨by omega, by omega⟩ hm hs fun b d2 ok q1 q2 q3 => ?_
  obtain ⟨c1, c2, c3⟩ := cb_of (c := 0) ok (by omega) (by omega) (by omega) q3
  mul_fits
  refine drawN (m := 3) (by decide) (by decide) fun n2 d3 hn2 => ?_
  mul_fits
  refine w_ifd (fun c => ?_) fun c => ?_
  · mul_fits
    refine drawN (m := 3) (by decide) (by decide) fun n3 d4 hn3 => ?_
    mul_fits
    have e3 : (1 + ((n3 : Nat) : Int)) = ((1 + n3 : Nat) : Int) := by omega
    rw [e3, rgD_0]
    refine loopS_e natD (fun r ρ S' => ∃ (i : Nat) (b : Bk) (d' : DS) (o6 o7 : Option D), i + r.length = 1 + n3 ∧ S' = d'.st R ∧ ρ = [some (.ref 1), some (.ref (b1 + 2)), some (.ref (b2 + 2)), some (natD many), some (natD more), some b.d, o6, o7] ∧ CB b i ∧ LenOk b ∧ (b.nms.map (·.1)).Nodup) ?_ ?_ _ _ _ ⟨0, b, d4, _, _, by simp, rfl, rfl, c1, c2, c3⟩
    · rintro x r ρ S' ⟨i, b, d', o6, o7, hi, rfl, rfl, c1, c2, c3⟩
      refine ⟨trivial, ?_⟩
      simp only [b__law_chance_book_2]
      have rl := c1.rl
      mul_fits
      rw [List.length_map, show ((b.rls.length : Int) + 1) = ((b.rls.length + 1 : Nat) : Int) from by omega]
      refine drawN (by omega) (by omega) fun g d5 hg => ?_
      mul_fits
      rw [show ((g : Int) + 1) = ((g + 1 : Nat) : Int) from by omega, cut_take, cut_drop]
      refine v_addT (le_size (by simp; omega)) ?_
      mul_fits
      refine ⟨_, .inl rfl, i + 1, ⟨b.top, b.nms, b.rls.take g ++ b.rls.drop (g + 1)⟩, d5, some (natD x), some (natD g), by simp at hi; omega, rfl, ?_, cut_ok c3 c1, cut_len c2, c3⟩
      have e : Bk.d ⟨b.top, b.nms, b.rls.take g ++ b.rls.drop (g + 1)⟩ = .tup [.str b.top, .tup (b.nms.map prD), .tup ((b.rls.map Rl.d).take g ++ (b.rls.map Rl.d).drop (g + 1))] := by
        simp only [Bk.d, List.map_append, List.map_take, List.map_drop]
      rw [e]
      rfl
    · rintro ρ S' ⟨i, b, d', o6, o7, hi, rfl, rfl, c1, c2, c3⟩
      refine ⟨trivial, ?_⟩
      mul_fits
      refine cb3_w ⟨c1.nmin, Nat.le_trans c1.ex (by simp at hi; omega), c1.n0, c1.nl, c1.rl⟩ c2 h
  · mul_fits
    exact cb3_w ⟨c1.nmin, Nat.le_trans c1.ex (by omega), c1.n0, c1.nl, c1.rl⟩ c2 h
theorem chance_book_w (h : ∀ (b : Bk) (d' : DS), CB b 3 → Q b.d (d'.st R)) : W (orc T (k + 7) n__law_chance_book [.ref 1] (d.st R)) Q := by
  refine orc_w (ρ := [some (.ref 1), none, none, none, none, none, none, none]) rfl rfl rfl ?_
  show W (evSs _ b__law_chance_book _ _) _
  simp only [b__law_chance_book]
  mul_fits
  refine letters_w (m := 2) fun l1 b1 g1 d1 hl1 ht1 hb1 hr1 => ?_
  mul_fits
  refine letters_w (m := 1) fun l2 b2 g2 d2 hl2 ht2 hb2 hr2 => ?_
  have R1 : Row (R ++ g1 ++ g2) b1 := Row.pre ⟨l1, by omega, by omega, hr1, ht1⟩
  have R2 : Row (R ++ g1 ++ g2) b2 := ⟨l2, by omega, by omega, hr2, ht2⟩
  mul_fits
  refine drawN (m := 4) (by decide) (by decide) fun n1 d3 hn1 => ?_
  mul_fits
  refine drawN (m := 8) (by decide) (by decide) fun n2 d4 hn2 => ?_
  mul_fits
  refine rare_w (by decide) (by decide) fun r1 d5 => ?_
  have fin : ∀ (many more : Nat) (d' : DS), 1 ≤ many ∧ many ≤ 26 → more ≤ 500 → W (evSs (orc T (k + 6)) b__law_chance_book_1 [some (.ref 1), some (.ref (b1 + 2)), some (.ref (b2 + 2)), some (natD many), some (natD more), none, none, none] (d'.st (R ++ g1 ++ g2))) fun fl S' => W (retK fl S') fun x S'' => W (gc (d.st R) x S'') Q := by
    intro many more d' a1 a2
    refine cb1_w a1 a2 R1 R2 fun b d'' ok => ?_
    rw [List.append_assoc]
    exact gc_st2 ((pd_bk b).b _) (h b d'' ok)
  mul_fits
  refine w_if (fun _ => ?_) fun _ => ?_
  · mul_fits
    refine drawN (m := 12) (by decide) (by decide) fun n3 d6 hn3 => ?_
    mul_fits
    refine drawN (m := 20) (by decide) (by decide) fun n4 d7 hn4 => ?_
    mul_fits
    rw [show (D.int (5 + ((n3 : Nat) : Int))) = natD (5 + n3) from by simp [natD], show (D.int (5 + ((n4 : Nat) : Int))) = natD (5 + n4) from by simp [natD]]
    exact fin _ _ _ ⟨by omega, by omega⟩ (by omega)
  · mul_fits
    refine rare_w (by decide) (by decide) fun r2 d6 => ?_
    mul_fits
    refine w_if (fun _ => ?_) fun _ => ?_
    · mul_fits
      refine drawN (m := 300) (by decide) (by decide) fun n4 d7 hn4 => ?_
      mul_fits
      rw [show (D.int (398 - ((n4 : Nat) : Int))) = natD (398 - n4) from by unfold natD; congr 1; omega]
      exact fin 2 _ _ ⟨by omega, by omega⟩ (by omega)
    · mul_fits
      rw [show (D.int (1 + ((n1 : Nat) : Int))) = natD (1 + n1) from by simp [natD]]
      exact fin _ _ _ ⟨by omega, by omega⟩ (by omega)
end
/-! ### weights and builds, drawn -/
theorem gl_set {l : List Nat} {i v : Nat} : (l.map natD).set i (natD v) = (l.set i v).map natD := by rw [List.map_set]
theorem sum_int : ∀ l : List Int, intsOf (l.map D.int) = some l := ints_map
theorem Wf.kids {b : Bk} (hs : ∀ r ∈ b.rls, r.sl.length ≤ 3) : ∀ (t : Tr) (nm : Str), Wf b nm t → ∀ x ∈ t.pre, x.kids.length ≤ 10 := by
  suffices ∀ n : Nat, (∀ (t : Tr) (nm : Str), t.pre.length ≤ n → Wf b nm t → ∀ x ∈ t.pre, x.kids.length ≤ 10) ∧ (∀ (ts : List Tr) (xs : List Str), (pres ts).length ≤ n → Wfs b xs ts → ∀ x ∈ pres ts, x.kids.length ≤ 10) from fun t nm => (this t.pre.length).1 t nm (Nat.le_refl _)
  intro n
  induction n with
  | zero =>
    refine ⟨fun t nm h => ?_, fun ts xs h _ x hx => ?_⟩
    · rw [pre_eq] at h
      simp at h
    · have : pres ts = [] := List.eq_nil_of_length_eq_zero (by omega)
      rw [this] at hx
      exact absurd hx (by simp)
  | succ n ih =>
    have hT : ∀ (t : Tr) (nm : Str), t.pre.length ≤ n + 1 → Wf b nm t → ∀ x ∈ t.pre, x.kids.length ≤ 10 := by
      intro t nm h w x hx
      cases t with
      | nd m ps =>
      rw [pre_eq] at h hx
      rw [Wf] at w
      obtain ⟨r, h1, h2, h3⟩ := w
      rcases List.mem_cons.mp hx with rfl | hx
      · have := h3.len
        have := hs r (List.mem_of_getElem? h1)
        simp [Tr.kids] at *
        omega
      · exact ih.2 ps _ (by simpa [Tr.kids] using h) h3 x hx
    refine ⟨hT, fun ts => ?_⟩
    induction ts with
    | nil =>
      intro xs _ _ x hx
      exact absurd hx (by simp [pres])
    | cons t ts ih2 =>
      intro xs h w x hx
      rw [pres] at h hx
      rw [List.length_append] at h
      cases xs with
      | nil => simp [Wfs] at w
      | cons y ys =>
      rw [Wfs] at w
      rcases List.mem_append.mp hx with hx | hx
      · exact hT t y (by omega) w.1 x hx
      · exact ih2 ys (by omega) w.2 x hx
section
variable {k : Nat} {R : Sto} {Q : D → Sto → Prop} {d : DS} {m : Int} {S : Sto} {b : Bk}
structure Ws99 (b : Bk) (ws : List Nat) : Prop where
  len : ws.length = b.rls.length
  lo : ∀ w ∈ ws, 1 ≤ w
  hi : ∀ w ∈ ws, w ≤ 99
theorem mx99 (x : Int) : ∃ n : Nat, (if (if x > 1 then x else 1) < 99 then (if x > 1 then x else 1) else 99) = (n : Int) ∧ 1 ≤ n ∧ n ≤ 99 := by
  refine ⟨(if (if x > 1 then x else 1) < 99 then (if x > 1 then x else 1) else 99).toNat, ?_, ?_, ?_⟩ <;> split <;> split <;> omega
theorem chance_weights_w (hr : b.rls.length ≤ 900) (hs : ∀ r ∈ b.rls, r.sl.length ≤ 3) (h : ∀ (ws : List Nat) (d' : DS), Ws99 b ws → Q (wsD ws) (d'.st R)) : W (orc T (k + 2) n__law_chance_weights [.ref 1, b.d] (d.st R)) Q := by
  refine orc_w (ρ := [some (.ref 1), some b.d, none, none, none, none, none, none, none]) rfl rfl rfl ?_
  show W (evSs _ b__law_chance_weights _ _) _
  simp only [b__law_chance_weights]
  mul_fits
  refine drawN (m := 4) (by decide) (by decide) fun way d1 hway => ?_
  mul_fits
  refine ⟨by rw [List.length_map]; exact le_size (by omega), ?_⟩
  refine loopQ_e Rl.d natD (fun _ w => 1 ≤ w ∧ w ≤ 99) (fun S => ∃ d' : DS, S = d'.st R) b.rls (fun r hr2 S e => ?_) (fun ws S a e => ?_) _ ⟨d1, rfl⟩
  · obtain ⟨d', rfl⟩ := e
    refine ⟨trivial, ?_⟩
    mul_fits
    refine w_ifd (fun c => ?_) fun c => ?_
    · mul_fits
      refine drawN (m := 99) (by decide) (by decide) fun n d2 hn => ?_
      mul_fits
      exact ⟨⟨d2, rfl⟩, show 1 ≤ 1 + n by omega, show 1 + n ≤ 99 by omega⟩
    · mul_fits
      refine drawN (m := 5) (by decide) (by decide) fun n d2 hn => ?_
      mul_fits
      exact ⟨⟨d2, rfl⟩, show 1 ≤ 1 + n by omega, show 1 + n ≤ 99 by omega⟩
  obtain ⟨d2, rfl⟩ := e
  refine ⟨trivial, ?_⟩
  have o0 : Ws99 b ws := ⟨a.len, fun w hw => by obtain ⟨_, _, z⟩ := a.mem w hw; exact z.1, fun w hw => by obtain ⟨_, _, z⟩ := a.mem w hw; exact z.2⟩
  clear a
  mul_fits
  simp only [st_len, st_app]
  have fin : ∀ (ws : List Nat) (d' : DS) (g : Sto) (o4 o5 o6 o7 o8 : Option D), Ws99 b ws → W (evSs (orc T (k + 1)) b__law_chance_weights_2 [some (.ref 1), some b.d, some (natD way), some (.ref (R.length + 2)), o4, o5, o6, o7, o8] (d'.st (R ++ [.lst (ws.map natD)] ++ g))) fun fl S1 => W (retK fl S1) fun x S' => W (gc (d.st R) x S') Q := by
    intro ws d' g o4 o5 o6 o7 o8 o
    simp only [b__law_chance_weights_2]
    have k1 : (d'.st (R ++ [Ob.lst (ws.map natD)] ++ g))[R.length + 2]? = some (.lst (ws.map natD)) := st_mid
    mul_fits
    rw [List.append_assoc]
    exact gc_st2 ((pd_nats ws).b _) (h ws d' o)
  refine w_ifd (fun c => ?_) fun c => ?_
  · mul_fits
    rw [List.length_map]
    have bd : bd62 0 ∧ bd62 (b.rls.length : Int) := by unfold bd62; omega
    mul_fits
    rw [rgD_0]
    refine loopS_e natD (fun r ρ S' => ∃ (i : Nat) (ws : List Nat) (d' : DS) (g : Sto) (o4 o5 o6 o7 o8 : Option D), r = List.range' i (b.rls.length - i) ∧ i ≤ b.rls.length ∧ S' = d'.st (R ++ [.lst (ws.map natD)] ++ g) ∧ ρ = [some (.ref 1), some b.d, some (natD way), some (.ref (R.length + 2)), o4, o5, o6, o7, o8] ∧ Ws99 b ws) ?_ ?_ _ _ _ ⟨0, ws, d2, [], _, _, _, _, _, rfl, by omega, by simp, rfl, o0⟩
    · rintro i r ρ S' ⟨c', ws, d', g, o4, o5, o6, o7, o8, hr', hc', rfl, rfl, o⟩
      refine ⟨trivial, ?_⟩
      obtain ⟨mm, hmm⟩ : ∃ mm, b.rls.length - c' = mm + 1 := by
        cases e : b.rls.length - c' with
        | zero => rw [e] at hr'; exact absurd hr' (by simp)
        | succ mm => exact ⟨mm, rfl⟩
      rw [hmm, rg'_cons, List.cons.injEq] at hr'
      obtain ⟨rfl, rfl⟩ := hr'
      have hi : i < b.rls.length := by omega
      have ki := at_rl hi
      simp only [b__law_chance_weights_1]
      mul_fits
      rw [List.length_map]
      have hnext : List.range' (i + 1) mm = List.range' (i + 1) (b.rls.length - (i + 1)) := by
        congr 1
        omega
      refine w_ifd (fun z => ?_) fun z => ?_
      · mul_fits
        refine rules_w (by omega) ?_
        simp only [st_len, st_app]
        have hlr : (rlsOf b (b.rls[i]).nm).length ≤ 900 := Nat.le_trans (rlsOf_len _ _) hr
        have kr : (d'.st (R ++ [Ob.lst (ws.map natD)] ++ g ++ [Ob.lst ((rlsOf b (b.rls[i]).nm).map natD)]))[(R ++ [Ob.lst (ws.map natD)] ++ g).length + 2]? = some (.lst ((rlsOf b (b.rls[i]).nm).map natD)) := st_end
        mul_fits
        refine ⟨by rw [List.length_map]; exact le_size (by omega), ?_⟩
        refine loopQ_f natD (fun j => decide (0 < ((b.rls[j]?).map (·.sl.length)).getD 0)) natD (fun S => S = d'.st (R ++ [Ob.lst (ws.map natD)] ++ g ++ [Ob.lst ((rlsOf b (b.rls[i]).nm).map natD)])) _ (fun j hj S e => ?_) (fun S e => ?_) _ rfl
        · subst e
          refine ⟨kr, ?_⟩
          have hjl := lt_of_rlsOf hj
          have kj := at_rl hjl
          mul_fits
          rw [List.length_map]
          have ej : decide (0 < ((b.rls[j]?).map (·.sl.length)).getD 0) = decide ((0 : Int) < ((b.rls[j]).sl.length : Int)) := by
            rw [List.getElem?_eq_getElem hjl]
            simp
          rw [ej]
          refine w_ifd (fun z => ?_) fun z => ?_
          · mul_fits
            exact ⟨by rw [if_pos (decide_eq_true z)], rfl⟩
          · mul_fits
            exact ⟨by rw [if_neg (by simpa using z)], rfl⟩
        · subst e
          refine ⟨kr, ?_⟩
          mul_fits
          simp only [st_len, st_app]
          generalize hJ : (rlsOf b (b.rls[i]).nm).filter (fun j => decide (0 < ((b.rls[j]?).map (·.sl.length)).getD 0)) = J
          have hJm : ∀ j ∈ J, j < b.rls.length := fun j hj => by
            rw [← hJ] at hj
            exact lt_of_rlsOf (List.mem_filter.mp hj).1
          have hJl : J.length ≤ 900 := by
            rw [← hJ]
            exact Nat.le_trans (List.length_filter_le _ _) hlr
          have kJ : (d'.st (R ++ [Ob.lst (ws.map natD)] ++ g ++ [Ob.lst ((rlsOf b (b.rls[i]).nm).map natD)] ++ [Ob.lst (J.map natD)]))[(R ++ [Ob.lst (ws.map natD)] ++ g ++ [Ob.lst ((rlsOf b (b.rls[i]).nm).map natD)]).length + 2]? = some (.lst (J.map natD)) := st_end
          have kw : ∀ d' : DS, (d'.st (R ++ [Ob.lst (ws.map natD)] ++ g ++ [Ob.lst ((rlsOf b (b.rls[i]).nm).map natD)] ++ [Ob.lst (J.map natD)]))[R.length + 2]? = some (.lst (ws.map natD)) := fun d' => by
            rw [List.append_assoc, List.append_assoc]
            exact st_mid
          have kw1 := kw d'
          mul_fits
          refine ⟨by rw [List.length_map]; exact le_size (by omega), ?_⟩
          refine loopQ_e natD (fun z : Int => D.int z) (fun _ _ => True) (fun S => S = d'.st (R ++ [Ob.lst (ws.map natD)] ++ g ++ [Ob.lst ((rlsOf b (b.rls[i]).nm).map natD)] ++ [Ob.lst (J.map natD)])) _ (fun j hj S e => ?_) (fun zs S _ e => ?_) _ rfl
          · subst e
            refine ⟨kJ, ?_⟩
            have hjl := hJm j hj
            have kj := at_rl hjl
            have hjw : j < ws.length := by rw [o.len]; exact hjl
            have kwj : atI (ws.map natD) (j : Int) = some (natD ws[j]) := at_map _ _ _ hjw
            have w99 := o.hi _ (List.getElem_mem hjw)
            have h3 := hs _ (List.getElem_mem hjl)
            mul_fits
            rw [List.length_map]
            refine v_mul (mul_okb (m := 10) (n := 10) (by omega) (by omega) (by decide)) ?_
            mul_fits
            exact ⟨rfl, trivial⟩
          · subst e
            refine ⟨kJ, ?_⟩
            mul_fits
            refine v_sum (show lsOf _ (.own _) = some _ from rfl) (sum_int zs) ?_
            mul_fits
            refine drawN (m := 3) (by decide) (by decide) fun q d3 hq => ?_
            mul_fits
            refine v_mul (mul_okb (m := 10) (n := 10) (by omega) (by omega) (by decide)) ?_
            mul_fits
            obtain ⟨v, ev, v1, v2⟩ := mx99 (zs.sum + ((way : Int) - 2) * ((q : Int) - 1))
            rw [ev]
            refine v_set (kw d3) (ix_nat (by rw [List.length_map, o.len]; exact hi)) ?_
            rw [gl_set]
            mul_fits
            have est : (d3.st (R ++ [Ob.lst (ws.map natD)] ++ g ++ [Ob.lst ((rlsOf b (b.rls[i]).nm).map natD)] ++ [Ob.lst (J.map natD)])).set (R.length + 2) (.lst ((ws.set i v).map natD)) = d3.st (R ++ [Ob.lst ((ws.set i v).map natD)] ++ (g ++ [Ob.lst ((rlsOf b (b.rls[i]).nm).map natD)] ++ [Ob.lst (J.map natD)])) := by
              rw [List.append_assoc, List.append_assoc (R ++ [Ob.lst (ws.map natD)]), st_set_mid, List.append_assoc g]
            rw [est]
            refine ⟨_, .inl rfl, i + 1, ws.set i v, d3, _, _, _, _, _, _, hnext, by omega, rfl, rfl, ?_⟩
            refine ⟨by rw [List.length_set]; exact o.len, fun w hw => ?_, fun w hw => ?_⟩
            · rcases List.mem_or_eq_of_mem_set hw with hw | rfl
              · exact o.lo w hw
              · exact v1
            · rcases List.mem_or_eq_of_mem_set hw with hw | rfl
              · exact o.hi w hw
              · exact v2
      · mul_fits
        exact ⟨_, .inl rfl, i + 1, ws, d', g, _, _, _, _, _, hnext, by omega, rfl, rfl, o⟩
    · rintro ρ S' ⟨c', ws, d', g, o4, o5, o6, o7, o8, hr', hc', rfl, rfl, o⟩
      refine ⟨trivial, ?_⟩
      mul_fits
      exact fin ws d' g _ _ _ _ _ o
  · mul_fits
    have := fin ws d2 [] none none none none none o0
    rw [List.append_nil] at this
    exact this
end
/-! ### builds drawn, the law asked -/
section
variable {k : Nat} {R : Sto} {Q : D → Sto → Prop} {d : DS} {S : Sto} {b : Bk} {ws : List Nat}
structure BtOk (b : Bk) (t : Tr) : Prop where
  z : t.pre.length ≤ 60
  kd : ∀ x ∈ t.pre, x.kids.length ≤ 10
  lt : ∀ x ∈ t.pre, x.num < b.rls.length
theorem chance_builds_w (o : CB b 3) (h : ∀ (ts : List Tr) (d' : DS), (∀ t ∈ ts, BtOk b t) → ts.length ≤ 4 → Q (.ref (R.length + 2)) (d'.st (R ++ [.lst (ts.map Tr.d)]))) : W (orc T (k + 4) n__law_chance_builds [.ref 1, b.d] (d.st R)) Q := by
  refine orc_w (ρ := [some (.ref 1), some b.d, none, none, none]) rfl rfl rfl ?_
  show W (evSs _ b__law_chance_builds _ _) _
  simp only [b__law_chance_builds]
  mul_fits
  simp only [st_len, st_app]
  refine loopS_e natD (fun r ρ S' => ∃ (ts : List Tr) (d' : DS) (o3 o4 : Option D), S' = d'.st (R ++ [.lst (ts.map Tr.d)]) ∧ ρ = [some (.ref 1), some b.d, some (.ref (R.length + 2)), o3, o4] ∧ (∀ t ∈ ts, BtOk b t) ∧ ts.length + r.length ≤ 4 ∧ ∀ x ∈ r, x ≤ 60) ?_ ?_ [1, 4, 15, 60] _ _ ⟨[], d, _, _, rfl, rfl, by simp, by simp, by simp⟩
  · rintro most r ρ S' ⟨ts, d', o3, o4, rfl, rfl, hts, hl, h60⟩
    refine ⟨trivial, ?_⟩
    have n0 := o.n0
    have nl := o.nl
    have hm := h60 most (by simp)
    have k1 : ∀ d' : DS, (d'.st (R ++ [Ob.lst (ts.map Tr.d)]))[R.length + 2]? = some (.lst (ts.map Tr.d)) := fun d' => st_end
    simp only [b__law_chance_builds_1]
    mul_fits
    refine pickT_w (by rw [List.length_map]; omega) (by rw [List.length_map]; omega) (fun x hx => by obtain ⟨p, _, rfl⟩ := List.mem_map.mp hx; exact pd_pr p) fun x hx d1 => ?_
    obtain ⟨p, hp, rfl⟩ := List.mem_map.mp hx
    mul_fits
    simp only [List.length_cons] at hl
    refine build_w (by omega) o.rl o.nmin.s3 (fun v hv => by have := least_bd o.nmin o.ex hv; omega) (by omega) (fun _ d2 => ?_) fun t d2 wf ht => ?_
    · mul_fits
      exact ⟨_, .inl rfl, ts, d2, _, _, rfl, rfl, hts, by omega, fun x hx => h60 x (by simp [hx])⟩
    · have kk := k1 d2
      have kz : (ts.map Tr.d).length < sizeLine := Nat.lt_of_lt_of_le (m := 1001) (by rw [List.length_map]; omega) (le_size (by decide))
      mul_fits
      refine w_if_T (by cases t; rfl) ?_
      mul_fits
      rw [st_set, set_end]
      mul_fits
      refine ⟨_, .inl rfl, ts ++ [t], d2, _, _, by rw [List.map_append]; rfl, rfl, fun x hx => ?_, by simp; omega, fun x hx => h60 x (by simp [hx])⟩
      rcases List.mem_append.mp hx with hx | hx
      · exact hts x hx
      · simp at hx
        subst hx
        obtain ⟨v, hv, hz⟩ := ht
        have := least_bd o.nmin o.ex hv
        exact ⟨by omega, wf.kids o.nmin.s3 _ _, wf.lt _⟩
  · rintro ρ S' ⟨ts, d', o3, o4, rfl, rfl, hts, hl, h60⟩
    refine ⟨trivial, ?_⟩
    mul_fits
    simp only [b__law_chance_builds_2]
    mul_fits
    rw [gc_out (by simp [below, st_len])]
    exact w_ok (h ts d' hts (by omega))
theorem is_asked_w {a : Nat} {ts : List Tr} (o : CB b 3) (ow : WsOk b ws) (ka : S[a]? = some (.lst (ts.map Tr.d))) (hts : ∀ t ∈ ts, BtOk b t) (h : Q (.bl true) S) : W (orc T (k + 7) n__law_is_asked [b.d, wsD ws, .ref a] S) Q := by
  refine orc_w (ρ := [some b.d, some (wsD ws), some (.ref a), none, none, none, none, none]) rfl rfl rfl ?_
  show W (evSs _ b__law_is_asked _ _) _
  simp only [b__law_is_asked]
  have nl := o.nl
  have rl := o.rl
  mul_fits
  refine weight_sums_w ow rl fun L hL => ?_
  mul_fits
  refine means_w ow rl o.nmin.s3 (by omega) ?_
  mul_fits
  rw [List.length_map, List.length_map]
  refine w_if_F (by simp) ?_
  mul_fits
  simp only [b__law_is_asked_1]
  mul_fits
  rw [List.length_map]
  have bd : bd62 0 ∧ bd62 (b.nms.length : Int) := by unfold bd62; omega
  mul_fits
  rw [rgD0]
  have kd : (S ++ [Ob.dic (encK natD L)])[S.length]? = some (.dic (encK natD L)) := get_end _ _
  have ka' : (S ++ [Ob.dic (encK natD L)])[a]? = some (.lst (ts.map Tr.d)) := get_pre ka
  refine loopS_e natD (fun r ρ S' => ∃ (o5 : Option D), S' = S ++ [.dic (encK natD L)] ∧ ρ = [some b.d, some (wsD ws), some (.ref a), some (.ref S.length), some (meansD b ws), o5, none, none] ∧ ∀ i ∈ r, i < b.nms.length) ?_ ?_ _ _ _ ⟨_, rfl, rfl, fun i hi => List.mem_range.mp hi⟩
  · rintro i r ρ S' ⟨o5, rfl, rfl, hr⟩
    refine ⟨trivial, ?_⟩
    have hi := hr i (by simp)
    have k1 := at_map (fun p : Str × Nat => D.tup (b.nms.map fun q => qD (mean b ws p.1 q.1))) _ _ hi
    have k2 := at_map prD _ _ hi
    simp only [b__law_is_asked_2]
    mul_fits
    refine due_row_w ow rl o.nmin.s3 (by omega) kd hL ?_
    mul_fits
    have e : rowD b ws (b.nms[i]).1 = (b.nms.map fun q => mean b ws (b.nms[i]).1 q.1).map qD := by rw [List.map_map]; rfl
    rw [show (b.nms.map fun q => qD (mean b ws (b.nms[i]).1 q.1)) = rowD b ws (b.nms[i]).1 from rfl, e]
    refine is_row_w (by rw [List.length_map]; omega) (fun q hq => ?_) ?_
    · obtain ⟨p, hp, rfl⟩ := List.mem_map.mp hq
      by_cases c : rlsOf b (b.nms[i]).1 = []
      · unfold mean
        rw [c, show mnN b ws p.1 [] = 0 from rfl, rat_zero]
        exact ⟨by decide +kernel, by decide +kernel⟩
      · obtain ⟨j, hj⟩ := List.exists_mem_of_ne_nil _ c
        have W1 := Wt_pos ow hj
        have W2 := Wt_bd ow rl (b.nms[i]).1
        have m1 := mnN_le ow o.nmin.s3 p.1 (l := rlsOf b (b.nms[i]).1) (fun x hx => lt_of_rlsOf hx) (Nat.le_trans (rlsOf_len b _) rl)
        exact (rat_bd (n := 20) (by omega) (by omega) (by omega)).mono (by decide)
    mul_fits
    exact ⟨_, .inl rfl, _, rfl, rfl, fun j hj => hr j (by simp [hj])⟩
  · rintro ρ S' ⟨o5, rfl, rfl, hr⟩
    refine ⟨trivial, ?_⟩
    mul_fits
    simp only [b__law_is_asked_3]
    mul_fits
    refine loopS_e Tr.d (fun r ρ S' => ∃ (o6 o7 : Option D), S' = S ++ [.dic (encK natD L)] ∧ ρ = [some b.d, some (wsD ws), some (.ref a), some (.ref S.length), some (meansD b ws), o5, o6, o7] ∧ ∀ t ∈ r, BtOk b t) ?_ ?_ _ _ _ ⟨_, _, rfl, rfl, hts⟩
    · rintro t r ρ S' ⟨o6, o7, rfl, rfl, hr⟩
      refine ⟨ka', ?_⟩
      have ht := hr t (by simp)
      simp only [b__law_is_asked_4]
      mul_fits
      refine build_chance_w ow rl o.nmin.rn ht.z ht.kd ht.lt ?_
      mul_fits
      have c1 := chH_bd ow ht.lt
      have c2 := chL_bd ow rl (l := t.pre)
      have hz := ht.z
      have qb : QB 1141 (chance b ws t.pre) := rat_bd (chL_pos ow ht.lt) (Nat.lt_of_lt_of_le c1 (Nat.pow_le_pow_right (by decide) (by omega))) (Nat.lt_of_lt_of_le c2 (Nat.pow_le_pow_right (by decide) (by omega)))
      refine is_frac_w qb (by decide) ?_
      mul_fits
      refine due_chance_w ow rl kd hL ht.z ht.kd ht.lt ?_
      mul_fits
      refine w_neq ?_
      mul_fits
      refine w_if_F (by simp) ?_
      mul_fits
      exact ⟨_, .inl rfl, _, _, rfl, rfl, fun j hj => hr j (by simp [hj])⟩
    · rintro ρ S' ⟨o6, o7, rfl, rfl, hr⟩
      refine ⟨ka', ?_⟩
      mul_fits
      simp only [b__law_is_asked_5]
      mul_fits
      rw [gc_app (by simp [below])]
      exact w_ok h
theorem greatest_cons : ∀ (x : Int) (l : List Int), ∃ m, greatest (x :: l) = some m
  | x, [] => ⟨x, rfl⟩
  | x, y :: l => by
    obtain ⟨m, e⟩ := greatest_cons y l
    exact ⟨_, by rw [greatest, e]; rfl; simp⟩
theorem law_w {ns : List Int} (hl : ns.length ≤ 63) : W (orc T (k + 10) n_law [.fix (ns.map .int)] []) fun d _ => d = .bl true := by
  refine orc_w (ρ := [some (.fix (ns.map .int)), none, none, none, none, none, none, none, none, none]) rfl rfl rfl ?_
  show W (evSs _ b_law _ _) Good1
  simp only [b_law]
  mul_fits
  refine begin_w rfl hl ?_
  mul_fits
  refine chance_book_w (R := []) fun b d1 o => ?_
  mul_fits
  refine chance_weights_w (R := []) o.rl o.nmin.s3 fun w1 d2 o1 => ?_
  mul_fits
  refine chance_weights_w (R := []) o.rl o.nmin.s3 fun w2 d3 o2 => ?_
  mul_fits
  have rl := o.rl
  have l1 := o1.len
  have eo : ([D.int 0] ++ w1.map natD) = ((0 : Int) :: w1.map fun n : Nat => (n : Int)).map D.int := by simp [natD]
  refine w_ask (by rw [List.length_map]; exact le_size (by simp; omega)) ?_
  rw [eo]
  mul_fits
  obtain ⟨mx, hmx⟩ := greatest_cons 0 (w1.map fun n : Nat => (n : Int))
  refine v_max (show lsOf _ (.own _) = some _ from rfl) (ints_map _) hmx ?_
  mul_fits
  refine ⟨by rw [List.length_map]; exact le_size (by omega), ?_⟩
  generalize decide (mx ≤ 33) = low
  refine loopQ_m natD (fun w => natD (if low = true then w * 3 else 100 - w)) (fun S => S = d3.st []) _ (fun w hw S e => ?_) (fun S e => ?_) _ rfl
  · subst e
    refine ⟨trivial, ?_⟩
    have a1 := o1.lo w hw
    have a2 := o1.hi w hw
    mul_fits
    refine w_if (fun c => ?_) fun c => ?_
    · subst c
      mul_fits
      exact ⟨by simp [natD], rfl⟩
    · subst c
      mul_fits
      refine ⟨?_, rfl⟩
      rw [if_neg (by decide)]
      unfold natD
      congr 2
      omega
  subst e
  refine ⟨trivial, ?_⟩
  rw [show (w1.map fun w => natD (if low = true then w * 3 else 100 - w)) = (w1.map fun w => if low = true then w * 3 else 100 - w).map natD from by rw [List.map_map]; rfl]
  generalize hw3 : (w1.map fun w => if low = true then w * 3 else 100 - w) = w3
  have q1 : WsOk b w1 := ⟨o1.len, o1.lo, fun w hw => Nat.le_trans (o1.hi w hw) (by decide)⟩
  have q2 : WsOk b w2 := ⟨o2.len, o2.lo, fun w hw => Nat.le_trans (o2.hi w hw) (by decide)⟩
  have q3 : WsOk b w3 := by
    subst hw3
    refine ⟨by rw [List.length_map]; exact o1.len, fun w hw => ?_, fun w hw => ?_⟩ <;>
    · obtain ⟨x, hx, rfl⟩ := List.mem_map.mp hw
      have a1 := o1.lo x hx
      have a2 := o1.hi x hx
      split <;> omega
  mul_fits
  refine chance_builds_w (R := []) o fun ts d4 hts hn => ?_
  mul_fits
  refine loopS_e wsD (fun r ρ S' => ∃ (o8 : Option D), S' = d4.st ([] ++ [.lst (ts.map Tr.d)]) ∧ ρ = [some (.fix (ns.map .int)), some (.ref 1), some b.d, some (wsD w1), some (wsD w2), some (.bl low), some (wsD w3), some (.ref (0 + 2)), o8, none] ∧ ∀ x ∈ r, WsOk b x) ?_ ?_ [w1, w2, w1, w3] _ _ ⟨_, rfl, rfl, by simp; exact ⟨q1, q2, q1, q3⟩⟩
  · rintro w r ρ S' ⟨o8, rfl, rfl, hr⟩
    refine ⟨trivial, ?_⟩
    simp only [b_law_1]
    mul_fits
    refine is_asked_w o (hr w (by simp)) (show (d4.st ([] ++ [Ob.lst (ts.map Tr.d)]))[0 + 2]? = _ from rfl) hts ?_
    mul_fits
    exact ⟨_, .inl rfl, _, rfl, rfl, fun x hx => hr x (by simp [hx])⟩
  · rintro ρ S' ⟨o8, rfl, rfl, hr⟩
    refine ⟨trivial, ?_⟩
    mul_fits
    simp only [b_law_2]
    mul_fits
    exact good1
end
theorem law_true : ∀ ns : List Int, ns.length ≤ 63 → ∃ S, orc T (20 + 1) 48 [.fix (ns.map .int)] [] = .ok (.bl true) S := fun ns h => by
  obtain ⟨a, S, e, q⟩ := law_w (k := 11) h
  subst q
  exact ⟨S, e⟩
end K87
end
open PySem PySem.W PySem.Calls PyProof.Rows
set_option maxHeartbeats 0 in
theorem PySem.Challenge.cw_everygrown_k87_chances_of_builds_holds : PySem.Challenge.rw_everygrown_k87_chances_of_builds.Holds := by
  w_on; o_law
  refine HandSHeadRun.head_imp (r := OpenLaw.row PySem.Challenge.rw_everygrown_k87_chances_of_builds) (q := view (OpenLaw.row PySem.Challenge.rw_everygrown_k87_chances_of_builds).prog [0, 61]) (H := K87.hk) (ob := K87.ob) (M := 12000) (loose := K87.loose) (d := HandSHeadRun.topDef (OpenLaw.row PySem.Challenge.rw_everygrown_k87_chances_of_builds).prog 61) (kwd := []) K87.ob_eq
     K87.run (by kernel_rfl) (by kernel_rfl) (by kernel_rfl) (by rfl) (by first | assumption | decide +kernel) (by decide +kernel) ⟨rfl, rfl, rfl, rfl, rfl, by decide +kernel⟩ ?hw ?hc
  case hw => w_witness2
  case hc =>
    refine L2.walk_ofE (l := PySem.Challenge.rw_everygrown_k87_chances_of_builds) (n := 63) (k := 21) (x := "script") (CX := L2.CX0) rfl (by decide) (by kernel_rfl) ⟨rfl, by decide, by decide⟩ ?F (fun _ _ _ _ z => z)
    intro w mg fa h Y G hmg0
    obtain ⟨K, KX, c, cg⟩ := Y
    have hmg : mg ("law" : PySem.Str) = some (.ref fa) := by
      have e : (HandSHeadRun.topDef (OpenLaw.row PySem.Challenge.rw_everygrown_k87_chances_of_builds).prog 61).name = ("law" : PySem.Str) := by kernel_rfl
      rw [← e]
      exact hmg0
    exact PQ.law_end (names := K87.names) (T := K87.T) (B := K87.B) (Gs := K87.Gs) (i := 48) (k := 20) KX rfl (K87.frees KX G c) (PQ.gB_ok KX G cg) (K87.defs KX G c) rfl rfl rfl hmg (by decide) (by decide) K87.law_true
