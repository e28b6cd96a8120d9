import PyProof.Rows.All
import Wide.All
import OpenK.AllK
import Wide.FinOn
import HandS.ForMost
import HandS.Defaults
import HandS.TupAny
import HandS.List
import HandS.Strs
import HandS.Wide
import HandS.Gcd
import HandS.IsInst
import HandS.Style
import HandS.Conv
import HandS.NoneIn
import HandS.Flow
import HandS.Zip
import KE.SortData
import HandS.Head2
import HandS.HeadEnd
import HandS.HeadHook2
import KE.KStateDown
import HandS.Text
import PyProof.ListStr
import HandS.More
import HandS.Deep
import HandS.WideBits
import PyProof.FitsReplace
import HandS.Head3
import PySem.Challenge.RW_everygrown_k07_glued_webs
set_option Elab.async false
set_option linter.all false
set_option maxRecDepth 100000
set_option maxHeartbeats 4000000
/-! Tuples whose object is known to have no dict: so that a method of theirs can be called. -/
namespace PQ
open PySem PySem.Spec PyProof.Rows L2
/-- at a stands a tuple of xs, and its object has no dict -/
def SqN (K : PySem.W.Frag) (H : Hp) (a : Addr) (xs : List V) : Prop :=
  (∃ o : Obj, H a = some (.frz o (.tup xs)) ∧ o.cls = .type "tuple" ∧ o.dict = none) ∨
  ∃ (o : Obj) (its : Array Value) (n : Nat), K.lookup a = some o ∧ o.cls = .type "tuple" ∧ o.dict = none ∧ o.data = .seq its n ∧ its.size ≤ sizeLine ∧ Vals xs its.toList
theorem SqN.sq {K : PySem.W.Frag} {H : Hp} {a : Addr} {xs : List V} (h : SqN K H a xs) : SqT K H a xs := by
  rcases h with ⟨o, h, _⟩ | ⟨o, its, n, h1, h2, _, h3, h4, h5⟩
  · exact .inl (.inr ⟨o, h⟩)
  · exact .inr ⟨o, its, n, h1, h2, h3, h4, h5⟩
/-- a new tuple -/
def NwT (H : Hp) (Q : VK) (xs : List V) : Prop := ∀ (p : Addr) (o : Obj), H p = none → o.cls = .type "tuple" → o.dict = none → Q (.ref p) (upd H p (.frz o (.tup xs)))
theorem SqN.new {K : PySem.W.Frag} {H : Hp} {p : Addr} {o : Obj} {xs : List V} (h1 : o.cls = .type "tuple") (h2 : o.dict = none) : SqN K (upd H p (.frz o (.tup xs))) p xs := .inl ⟨o, upd_same, h1, h2⟩
section
variable {X : Cx} {pos : Pos} {es : List Expr} {t : TA}
def tTupN (t : TA) : TE := fun σ H Q => t σ H fun xs H1 => xs.length ≤ sizeLine ∧ NwT H1 Q xs
theorem pe_tupN {x1} (h : PA X es t) : PE X (.Tuple es x1 pos) (tTupN t) := by
  refine ⟨fun pins s σ H Q I hq => ?_⟩
  refine wpAny_Tuple_spliced (thn (h.run pos pins s σ H _ I hq) fun us s1 ⟨xs, H1, I1, r, z, q⟩ => ⟨by rw [← r.length]; exact z, ?_⟩)
  have hf : H1 s1.heap.objs.size = none := I1.hok.fresh (Nat.le_refl _)
  have hg := Heap.get?_push_size (h := s1.heap) (o := ({ cls := .type "tuple", data := .seq us.toArray } : Obj)) rfl
  refine ⟨.ref s1.heap.objs.size, upd H1 s1.heap.objs.size (.frz { cls := .type "tuple", data := .seq us.toArray } (.tup xs)), I1.laid (t' := s1.toks) (fun b u e => Heap.get?_push_of_some _ e) (Nat.le_refl _) ?_, rfl, q _ _ hf rfl rfl⟩
  exact ⟨hg, z, us, r, ⟨_, hg, rfl, _, rfl⟩⟩
def rCatN (K : PySem.W.Frag) : R2 := fun x y H Q => ∃ a b xs ys, x = .ref a ∧ y = .ref b ∧ SqT K H a xs ∧ SqT K H b ys ∧ xs.length + ys.length ≤ sizeLine ∧
  (xs = [] → Q (.ref b) H) ∧ (xs ≠ [] → ys = [] → Q (.ref a) H) ∧ (xs ≠ [] → ys ≠ [] → NwT H Q (xs ++ ys))
theorem op_catN : OpR X (binaryOp .Add) (rCatN X.K) := by
  intro pins s σ H x y v u Q I rx ry h
  obtain ⟨a, b, xs, ys, rfl, rfl, ha, hb, hz, q0, q1, q2⟩ := h
  by_cases hx : xs = []
  · subst hx
    cases rx
    cases ry
    obtain ⟨its, r1, p1, _⟩ := I.tuple ha
    obtain ⟨its2, r2, p2, _⟩ := I.tuple hb
    cases r1
    exact cat_tup0 p1 p2 ⟨.ref b, H, I, rfl, q0 rfl⟩
  · cases rx
    cases ry
    obtain ⟨its, r1, p1, _⟩ := I.tuple ha
    obtain ⟨its2, r2, p2, _⟩ := I.tuple hb
    refine HT.cat_tup p1 p2 (fun z => hx (r1.nil_iff.mp z)) (fun z => ⟨.ref a, H, I, rfl, q1 hx (r2.nil_iff.mp z)⟩) (fun z => ?_) (by rw [← r1.length, ← r2.length]; exact hz)
    have hg := Heap.get?_push_size (h := s.heap) (o := ({ cls := .type "tuple", data := .seq (its ++ its2).toArray } : Obj)) rfl
    refine ⟨.ref s.heap.objs.size, _, I.laid (t' := s.toks) (o := .frz { cls := .type "tuple", data := .seq (its ++ its2).toArray } (.tup (xs ++ ys))) (fun b ob q => Heap.get?_push_of_some _ q) (Nat.le_refl _) ?_, rfl, q2 hx (fun w => z (r2.nil_iff.mpr w)) _ _ (I.hok.fresh (Nat.le_refl _)) rfl rfl⟩
    exact ⟨hg, by rw [List.length_append]; exact hz, _, r1.append r2, ⟨_, hg, rfl, _, rfl⟩⟩
def rSlN (K : PySem.W.Frag) : V → Option Int → Option Int → Hp → VK → Prop := fun x lo hi H Q => ∃ a xs, x = .ref a ∧ SqT K H a xs ∧
  (HT.sIx xs.length 0 lo = 0 ∧ HT.sIx xs.length xs.length hi = xs.length → Q (.ref a) H) ∧ (¬ (HT.sIx xs.length 0 lo = 0 ∧ HT.sIx xs.length xs.length hi = xs.length) → NwT H Q (cutV xs lo hi))
theorem sl_tupN : SlR X (rSlN X.K) := by
  intro pins s σ H x v vl vu lo hi sl Q I rx hs pl pu h
  obtain ⟨a, xs, rfl, hx, q1, q2⟩ := h
  cases rx
  obtain ⟨its, r, ht, hz⟩ := I.tuple hx
  have hlen : its.toArray.size = xs.length := by rw [List.size_toArray]; exact r.length.symm
  by_cases hw : HT.sIx xs.length 0 lo = 0 ∧ HT.sIx xs.length xs.length hi = xs.length
  · refine ⟨"tuple", _, PyProof.Rows.slot_tuple_getitem.lookup, ht.typeIs, ?_⟩
    exact getItem_tuple_whole ht hs pl pu (by rw [hlen]; exact hw) ⟨.ref a, H, I, rfl, q1 hw⟩
  · refine ⟨"tuple", _, PyProof.Rows.slot_tuple_getitem.lookup, ht.typeIs, ?_⟩
    refine HT.getItem_tuple_cut ht hs pl pu (by rw [hlen]; exact hw) ?_ (by rw [hlen]; exact hz)
    rw [hlen]
    have hg := Heap.get?_push_size (h := s.heap) (o := ({ cls := .type "tuple", data := .seq ((its.drop (HT.sIx xs.length 0 lo)).take (HT.sIx xs.length xs.length hi - HT.sIx xs.length 0 lo)).toArray } : Obj)) rfl
    refine ⟨.ref s.heap.objs.size, _, I.laid (t' := s.toks) (o := .frz { cls := .type "tuple", data := .seq ((its.drop (HT.sIx xs.length 0 lo)).take (HT.sIx xs.length xs.length hi - HT.sIx xs.length 0 lo)).toArray } (.tup (cutV xs lo hi))) (fun b ob q => Heap.get?_push_of_some _ q) (Nat.le_refl _) ?_, rfl, q2 hw _ _ (I.hok.fresh (Nat.le_refl _)) rfl rfl⟩
    exact ⟨hg, Nat.le_trans (cutV_length xs lo hi) hz, _, (r.drop (HT.sIx xs.length 0 lo)).take (HT.sIx xs.length xs.length hi - HT.sIx xs.length 0 lo), ⟨_, hg, rfl, _, rfl⟩⟩
theorem call_tupleN : CallR X (.type "tuple") (fun xs H Q => ∃ p ys, xs = [.ref p] ∧ ((SqL X.K H p ys ∧ NwT H Q ys) ∨ (SqT X.K H p ys ∧ Q (.ref p) H))) := by
  intro pins s σ H xs us Q I r h
  obtain ⟨p, ys, rfl, h⟩ := h
  obtain ⟨u, rfl, rx⟩ := vals1 r
  cases rx
  rcases h with ⟨hq, q⟩ | ⟨hq, q⟩
  · obtain ⟨its, r', pl, hz⟩ := I.list hq
    have hlen := r'.length
    refine call_tuple_list pl.isList (fun h' kp => ?_) (by simp only [List.size_toArray] <;> omega)
    have I1 : Inv X pins σ H { s with heap := h' } := I.kept (t' := s.toks) kp
    have hg := Heap.get?_push_size (h := h') (o := ({ cls := .type "tuple", data := .seq its.toArray } : Obj)) rfl
    have I2 : Inv X pins σ (upd H h'.objs.size (.frz { cls := .type "tuple", data := .seq its.toArray } (.tup ys))) { s with heap := h'.push { cls := .type "tuple", data := .seq its.toArray } } :=
      I1.laid (t' := s.toks) (fun b o e => Heap.get?_push_of_some _ e) (Nat.le_refl _) (show ObjOk X.prog X.w _ _ _ (.frz _ (.tup ys)) from ⟨hg, hz, its, r', ⟨_, hg, rfl, _, rfl⟩⟩)
    exact ⟨.ref h'.objs.size, _, I2, rfl, q _ _ (I1.hok.fresh (Nat.le_refl _)) rfl rfl⟩
  · obtain ⟨its, r', pl, hz⟩ := I.tuple hq
    exact call_tuple_same pl ⟨.ref p, H, I, rfl, q⟩
/-- t.index(i), the first place, of numbers -/
theorem mt_tup_indexI : MtR X "tuple.index" (fun x xs H Q => ∃ p, ∃ ys : List Int, ∃ z j, x = .ref p ∧ xs = [.int z] ∧ SqT X.K H p (ys.map V.int) ∧ ys[j]? = some z ∧ (∀ m, m < j → ys[m]? ≠ some z) ∧ Q (.int (j : Nat)) H) := by
  intro pins s σ H x xs v us Q I rx rs h
  obtain ⟨p, ys, z, j, rfl, rfl, hq, hy, hno, q⟩ := h
  cases rx
  obtain ⟨u, rfl, t, rfl⟩ := vals1 rs
  obtain ⟨its, r, pl, hz⟩ := I.tuple hq
  obtain ⟨⟨cls, dd, dt, sl⟩, ho, hc, n, hd⟩ := pl
  simp only at hc hd
  subst hc
  subst hd
  have hl : its.toArray.size = ys.length := by rw [List.size_toArray, ← r.length, List.length_map]
  have hj : j < its.toArray.size := by rw [hl]; exact (List.getElem?_eq_some_iff.mp hy).1
  have at' : ∀ (m : Nat) (hm : m < its.toArray.size), ∃ y t', ys[m]? = some y ∧ its.toArray[m] = Value.int y t' := fun m hm => by
    have hm' : m < ys.length := by rw [← hl]; exact hm
    obtain ⟨w, hw, t', hw'⟩ := r.get (i := m) (x := .int ys[m]) (by simp [hm'])
    refine ⟨ys[m], t', List.getElem?_eq_getElem hm', ?_⟩
    have e := (List.getElem?_eq_some_iff.mp hw).2
    rw [← hw', ← e]
    simp
  have fl : (ys.map V.int).all flatV = true := by
    rw [List.all_map]
    exact List.all_eq_true.mpr fun _ _ => rfl
  refine call_meets PySem.F.slot_tuple_index ⟨_, ho, rfl⟩ PySem.F.entry_tuple_index (PySem.F.args_tuple_index_2 _ _) (TI.tuple_indexAt p its.toArray n dd sl (.int z t) (eqU (.int z)) j hj ?_ ?_)
    ⟨ho, fun w hw => mem_eqAt (x := .int z) ⟨t, rfl⟩ rfl r fl w (by simpa using hw), ⟨.int (j : Nat), H, I.tok _, ⟨_, rfl⟩, q⟩⟩
  · obtain ⟨y, t', h1, h2⟩ := at' j hj
    rw [hy] at h1
    cases h1
    rw [h2]
    show (z == z) = true
    exact beq_self_eq_true z
  · intro m hm hmj
    obtain ⟨y, t', h1, h2⟩ := at' m hm
    rw [h2]
    show (y == z) = false
    exact beq_eq_false_iff_ne.mpr fun e => hno m hmj (e ▸ h1)
theorem sqn_is {pins : List (Addr × Obj)} {σ : L2.St} {H : Hp} {s : Shared} {p : Addr} {xs : List V} (I : Inv X pins σ H s) (h : SqN X.K H p xs) :
    s.TypeIs (.ref p) "tuple" ∧ ∀ a, Value.ref p = .ref a → ∃ ob, s.heap.get? a = some ob ∧ ob.dict = none := by
  rcases h with ⟨o, h, h1, h2⟩ | ⟨o, its, n, h, h1, h2, _⟩
  · obtain ⟨e, _⟩ := I.hok p _ h
    refine ⟨⟨o, e, h1⟩, fun a ea => ?_⟩
    cases ea
    exact ⟨o, e, h2⟩
  · refine ⟨⟨o, I.kIn p o h, h1⟩, fun a e => ?_⟩
    cases e
    exact ⟨o, I.kIn _ o h, h2⟩
section
variable {o e : Expr} {to : TE} {name : Str} {apos cpos : Pos} {id : String} {r : V → List V → Hp → VK → Prop}
def tTM (K : PySem.W.Frag) (r : V → List V → Hp → VK → Prop) (to : TE) (t : TA) : TE := fun σ H Q => to σ H fun x H1 => (∃ p xs, x = .ref p ∧ SqN K H1 p xs) ∧ t σ H1 fun xs H2 => r x xs H2 Q
/-- a method of a tuple -/
theorem pe_tm (slot : Slot "tuple" name id) (hty : typeOf (.builtin id) = pure (.type "method_descriptor")) (hm : MtR X id r) (ho : PE X o to) (ha : PA X (e :: es) t)
    (hbase : attributeBase o name X.env (eval o X.env) = eval o X.env := by rfl)
    (hfew : ((backTo cpos (starEach (e :: es) X.env)).all (fun x => !x.1) && (backToKw cpos (keywordEach [] X.env)).all (fun x => x.1.isSome)
      && decide ((e :: es).length + ([] : List Keyword).length + (if ([] : List Keyword).isEmpty then 0 else 1) < 30)) = true := by rfl)
    (hline : (apos.endLine == cpos.line) = true := by rfl) (hs : starEach (e :: es) X.env = (false, eval e X.env) :: starEach es X.env := by rfl) (hplain : (backTo cpos (starEach es X.env)).any (·.1) = false := by rfl) :
    PE X (.Call (.Attribute o name apos) (e :: es) [] cpos) (tTM X.K r to t) := by
  refine ⟨fun pins s σ H Q I h => ?_⟩
  refine wpAny_Call_method_late hbase hfew hline rfl (thn (ho.run pins s σ H _ I h) fun v s1 ⟨x, H1, I1, r1, ⟨p, xs, ex, ty⟩, q1⟩ => ?_)
  subst ex
  cases r1
  obtain ⟨h1, h2⟩ := sqn_is I1 ty
  refine ⟨"tuple", id, PySem.F.plainAttrs_tuple, slot, hty, h1, h2, ?_⟩
  have hA := ha.run cpos pins s1 σ H1 _ I1 q1
  rw [hs] at hA ⊢
  refine Calls.callWith_builtin (by show (false || (backTo cpos (starEach es X.env)).any (·.1)) = false; rw [hplain] <;> rfl) (Calls.evalArgs_plain ?_)
  exact thn hA fun us s2 ⟨vs, H2, I2, r2, q2⟩ => hm pins s2 σ H2 (.ref p) vs (.ref p) us Q I2 rfl r2 q2
end
end
end PQ

/-! A small language of pure data and stores, and what it says of the machine. -/
namespace PQ
open PySem PySem.Spec PyProof.Rows L2

/-- data: what a Python value is worth, tuples by their items, changeable lists by a number in the store -/
inductive D where
  | non
  | bl (b : Bool)
  | int (i : Int)
  | str (x : Str)
  | tup (ds : List D)
  | ref (i : Nat)
  | fix (ds : List D)
/-- what stands in the store -/
inductive Ob where
  | lst (ds : List D)
abbrev Sto := List Ob
abbrev En := List (Option D)
abbrev Fg := PySem.W.Frag

/-- a list that nobody changes -/
def Fix (K : Fg) (H : Hp) (a : Addr) (xs : List V) : Prop :=
  (∃ o, H a = some (.frz o (.lst xs))) ∨
    ∃ (o : Obj) (its : Array Value) (n : Nat), K.lookup a = some o ∧ o.cls = .type "list" ∧ o.dict = none ∧ o.data = .seq its n ∧ its.size ≤ sizeLine ∧ Vals xs its.toList
theorem Fix.sq {K : Fg} {H : Hp} {a : Addr} {xs : List V} (h : Fix K H a xs) : SqL K H a xs := by
  rcases h with ⟨o, h⟩ | h
  · exact .inl (.inr ⟨o, h⟩)
  · exact .inr h

mutual
def Rp (K : Fg) (μ : List Addr) (H : Hp) : D → V → Prop
  | .non, v => v = .non
  | .bl b, v => v = .bl b
  | .int i, v => v = .int i
  | .str x, v => v = .str x
  | .tup ds, v => ∃ a vs, v = .ref a ∧ SqN K H a vs ∧ RpA K μ H ds vs ∧ ds.length ≤ sizeLine
  | .ref i, v => ∃ a, v = .ref a ∧ μ[i]? = some a
  | .fix ds, v => ∃ a vs, v = .ref a ∧ Fix K H a vs ∧ RpA K μ H ds vs ∧ ds.length ≤ sizeLine
def RpA (K : Fg) (μ : List Addr) (H : Hp) : List D → List V → Prop
  | [], vs => vs = []
  | d :: ds, vs => ∃ v r, vs = v :: r ∧ Rp K μ H d v ∧ RpA K μ H ds r
end

section
variable {K : Fg} {μ μ' μ1 μ2 : List Addr} {H H' H1 H2 : Hp} {S S' : Sto} {σ σ' : L2.St} {ρ : En}

/-- what a run may do to the machine: new things, and changes at the store's own addresses -/
structure Ext (K : Fg) (μ : List Addr) (H : Hp) (μ' : List Addr) (H' : Hp) : Prop where
  pre : ∃ l, μ' = μ ++ l ∧ ∀ a ∈ l, H a = none
  alive : ∀ a, H' a = none → H a = none
  fr : ∀ a o, H a = some o → a ∉ μ → H' a = some o
  tup : ∀ a xs, SqN K H a xs → SqN K H' a xs
  fix : ∀ a xs, Fix K H a xs → Fix K H' a xs
theorem Ext.refl : Ext K μ H μ H := ⟨⟨[], by simp, fun a h => nomatch h⟩, fun _ h => h, fun _ _ h _ => h, fun _ _ h => h, fun _ _ h => h⟩
theorem Ext.trans (a : Ext K μ H μ1 H1) (b : Ext K μ1 H1 μ2 H2) : Ext K μ H μ2 H2 := by
  obtain ⟨l, e, n⟩ := a.pre
  obtain ⟨l', e', n'⟩ := b.pre
  refine ⟨⟨l ++ l', by rw [e', e, List.append_assoc], fun c hc => ?_⟩, fun c h => a.alive c (b.alive c h), fun c o h hc => ?_, fun c xs h => b.tup c xs (a.tup c xs h), fun c xs h => b.fix c xs (a.fix c xs h)⟩
  · rcases List.mem_append.mp hc with h | h
    · exact n c h
    · exact a.alive c (n' c h)
  · refine b.fr c o (a.fr c o h hc) fun hm => ?_
    rw [e] at hm
    rcases List.mem_append.mp hm with hm | hm
    · exact hc hm
    · rw [n c hm] at h; cases h
theorem Ext.get (e : Ext K μ H μ' H') {i : Nat} {a : Addr} (h : μ[i]? = some a) : μ'[i]? = some a := by
  obtain ⟨l, rfl, _⟩ := e.pre
  rw [List.getElem?_append_left (List.getElem?_eq_some_iff.mp h).1]
  exact h
theorem Ext.len (e : Ext K μ H μ' H') : μ.length ≤ μ'.length := by
  obtain ⟨l, rfl, _⟩ := e.pre
  rw [List.length_append]
  omega

/-- what is represented stays represented -/
structure Le (K : Fg) (μ : List Addr) (H : Hp) (μ' : List Addr) (H' : Hp) : Prop where
  get : ∀ (i : Nat) a, μ[i]? = some a → μ'[i]? = some a
  tup : ∀ a xs, SqN K H a xs → SqN K H' a xs
  fix : ∀ a xs, Fix K H a xs → Fix K H' a xs
theorem Ext.le (e : Ext K μ H μ' H') : Le K μ H μ' H' := ⟨fun _ _ h => e.get h, e.tup, e.fix⟩
theorem Le.more (l : List Addr) : Le K μ H (μ ++ l) H := ⟨fun i a h => by
  rw [List.getElem?_append_left (List.getElem?_eq_some_iff.mp h).1]
  exact h, fun _ _ h => h, fun _ _ h => h⟩
mutual
theorem Rp.le (e : Le K μ H μ' H') : ∀ (d : D) (v : V), Rp K μ H d v → Rp K μ' H' d v
  | .non, _, h => h
  | .bl _, _, h => h
  | .int _, _, h => h
  | .str _, _, h => h
  | .tup ds, _, ⟨a, vs, h1, h2, h3, h4⟩ => ⟨a, vs, h1, e.tup _ _ h2, RpA.le e ds vs h3, h4⟩
  | .ref _, _, ⟨a, h1, h2⟩ => ⟨a, h1, e.get _ _ h2⟩
  | .fix ds, _, ⟨a, vs, h1, h2, h3, h4⟩ => ⟨a, vs, h1, e.fix _ _ h2, RpA.le e ds vs h3, h4⟩
theorem RpA.le (e : Le K μ H μ' H') : ∀ (ds : List D) (vs : List V), RpA K μ H ds vs → RpA K μ' H' ds vs
  | [], _, h => h
  | d :: ds, _, ⟨v, r, h1, h2, h3⟩ => ⟨v, r, h1, Rp.le e d v h2, RpA.le e ds r h3⟩
end
theorem Rp.mono (e : Ext K μ H μ' H') {d : D} {v : V} (h : Rp K μ H d v) : Rp K μ' H' d v := Rp.le e.le d v h
theorem RpA.mono (e : Ext K μ H μ' H') {ds : List D} {vs : List V} (h : RpA K μ H ds vs) : RpA K μ' H' ds vs := RpA.le e.le ds vs h
theorem RpA.nil : RpA K μ H [] [] := rfl
theorem RpA.cons {d : D} {v : V} {ds : List D} {vs : List V} (h : Rp K μ H d v) (t : RpA K μ H ds vs) : RpA K μ H (d :: ds) (v :: vs) := ⟨v, vs, rfl, h, t⟩
theorem RpA.length : ∀ {ds : List D} {vs : List V}, RpA K μ H ds vs → ds.length = vs.length
  | [], _, h => by rw [h]; rfl
  | _ :: ds, _, ⟨v, r, h1, _, h3⟩ => by rw [h1, List.length_cons, List.length_cons, RpA.length h3]
theorem RpA.get : ∀ {ds : List D} {vs : List V} {i : Nat} {d : D}, RpA K μ H ds vs → ds[i]? = some d → ∃ v, vs[i]? = some v ∧ Rp K μ H d v
  | d :: ds, _, 0, _, ⟨v, r, h1, h2, _⟩, e => by
    cases e
    exact ⟨v, by rw [h1]; rfl, h2⟩
  | _ :: ds, _, i + 1, d, ⟨v, r, h1, _, h3⟩, e => by
    obtain ⟨x, e1, e2⟩ := RpA.get (i := i) h3 e
    exact ⟨x, by rw [h1]; exact e1, e2⟩
theorem RpA.getV : ∀ {ds : List D} {vs : List V} {i : Nat} {v : V}, RpA K μ H ds vs → vs[i]? = some v → ∃ d, ds[i]? = some d ∧ Rp K μ H d v
  | [], _, _, _, h, e => by rw [h] at e; cases e
  | d :: ds, _, 0, _, ⟨v, r, h1, h2, _⟩, e => by
    rw [h1] at e
    cases e
    exact ⟨d, rfl, h2⟩
  | _ :: ds, _, i + 1, v, ⟨_, r, h1, _, h3⟩, e => by
    rw [h1] at e
    obtain ⟨x, e1, e2⟩ := RpA.getV (i := i) h3 e
    exact ⟨x, e1, e2⟩
theorem RpA.append : ∀ {ds es : List D} {vs us : List V}, RpA K μ H ds vs → RpA K μ H es us → RpA K μ H (ds ++ es) (vs ++ us)
  | [], _, _, _, h, t => by rw [h]; exact t
  | _ :: ds, _, _, _, ⟨v, r, h1, h2, h3⟩, t => by rw [h1]; exact ⟨v, _, rfl, h2, RpA.append h3 t⟩
theorem RpA.set {d : D} {v : V} (hd : Rp K μ H d v) : ∀ {ds : List D} {vs : List V} (i : Nat), RpA K μ H ds vs → RpA K μ H (ds.set i d) (vs.set i v)
  | [], _, _, h => by rw [h]; exact rfl
  | _ :: ds, _, 0, ⟨w, r, h1, h2, h3⟩ => by rw [h1]; exact ⟨v, r, rfl, hd, h3⟩
  | _ :: ds, _, i + 1, ⟨w, r, h1, h2, h3⟩ => by rw [h1]; exact ⟨w, _, rfl, h2, RpA.set hd i h3⟩
theorem RpA.take : ∀ {ds : List D} {vs : List V} (n : Nat), RpA K μ H ds vs → RpA K μ H (ds.take n) (vs.take n)
  | _, _, 0, _ => rfl
  | [], _, _ + 1, h => by rw [h]; exact rfl
  | _ :: ds, _, n + 1, ⟨w, r, h1, h2, h3⟩ => by rw [h1]; exact ⟨w, _, rfl, h2, RpA.take n h3⟩
theorem RpA.drop : ∀ {ds : List D} {vs : List V} (n : Nat), RpA K μ H ds vs → RpA K μ H (ds.drop n) (vs.drop n)
  | _, _, 0, h => h
  | [], _, _ + 1, h => by rw [h]; exact rfl
  | _ :: ds, _, n + 1, ⟨w, r, h1, h2, h3⟩ => by rw [h1]; exact RpA.drop n h3
theorem RpA.eraseIdx : ∀ {ds : List D} {vs : List V} (n : Nat), RpA K μ H ds vs → RpA K μ H (ds.eraseIdx n) (vs.eraseIdx n)
  | [], _, _, h => by rw [h]; exact rfl
  | _ :: ds, _, 0, ⟨w, r, h1, h2, h3⟩ => by rw [h1]; exact h3
  | _ :: ds, _, n + 1, ⟨w, r, h1, h2, h3⟩ => by rw [h1]; exact ⟨w, _, rfl, h2, RpA.eraseIdx n h3⟩
theorem RpA.reverse : ∀ {ds : List D} {vs : List V}, RpA K μ H ds vs → RpA K μ H ds.reverse vs.reverse
  | [], _, h => by rw [h]; exact rfl
  | d :: ds, _, ⟨w, r, h1, h2, h3⟩ => by
    rw [h1, List.reverse_cons, List.reverse_cons]
    exact RpA.append (RpA.reverse h3) (.cons h2 .nil)

/-- an object of the store as it stands -/
def ObR (K : Fg) (μ : List Addr) (H : Hp) : Ob → Addr → Prop
  | .lst ds, a => ∃ vs, H a = some (.lst vs) ∧ RpA K μ H ds vs ∧ ds.length ≤ sizeLine
structure StOk (K : Fg) (μ : List Addr) (H : Hp) (S : Sto) : Prop where
  len : μ.length = S.length
  nd : μ.Nodup
  ob : ∀ (i : Nat) o a, S[i]? = some o → μ[i]? = some a → ObR K μ H o a
theorem ObR.some {o : Ob} {a : Addr} (h : ObR K μ H o a) : ∃ u, H a = some u ∧ (∀ xs, u ≠ .tup xs) ∧ ∀ b xs, u ≠ .frz b xs := by
  cases o with
  | lst ds =>
    obtain ⟨vs, e, _⟩ := h
    exact ⟨.lst vs, e, fun _ => (fun z => by cases z), fun _ _ => (fun z => by cases z)⟩
theorem StOk.mem (h : StOk K μ H S) {a : Addr} (m : a ∈ μ) : ∃ u, H a = some u ∧ (∀ xs, u ≠ .tup xs) ∧ ∀ b xs, u ≠ .frz b xs := by
  obtain ⟨i, e⟩ := List.mem_iff_getElem?.mp m
  have hi : i < S.length := by
    rw [← h.len]
    exact (List.getElem?_eq_some_iff.mp e).1
  exact (h.ob i S[i] a (List.getElem?_eq_getElem hi) e).some
/-- from what was changed alone -/
theorem StOk.ext (h : StOk K μ H S) (pre : ∃ l, μ' = μ ++ l ∧ ∀ a ∈ l, H a = none) (alive : ∀ a, H' a = none → H a = none) (fr : ∀ a o, H a = some o → a ∉ μ → H' a = some o) : Ext K μ H μ' H' := by
  refine ⟨pre, alive, fr, fun a xs q => ?_, fun a xs q => ?_⟩
  · rcases q with ⟨o, q, c1, c2⟩ | q
    · refine .inl ⟨o, fr _ _ q fun m => ?_, c1, c2⟩
      obtain ⟨u, e, _, n2⟩ := h.mem m
      rw [q] at e
      exact n2 _ _ (Option.some.inj e).symm
    · exact .inr q
  · rcases q with ⟨o, q⟩ | q
    · refine .inl ⟨o, fr _ _ q fun m => ?_⟩
      obtain ⟨u, e, _, n2⟩ := h.mem m
      rw [q] at e
      exact n2 _ _ (Option.some.inj e).symm
    · exact .inr q
/-- a new thing that the store does not know -/
theorem StOk.fresh (h : StOk K μ H S) {p : Addr} (hp : H p = none) (o : HO) : Ext K μ H μ (upd H p o) :=
  h.ext ⟨[], by simp, fun a z => nomatch z⟩ (fun a z => by
    by_cases e : a = p
    · rw [e]; exact hp
    · rw [upd_ne e] at z; exact z) fun a u z _ => by rw [upd_ne (ne_of_none z hp)]; exact z
theorem ObR.le {o : Ob} {a : Addr} (e : Le K μ H μ' H') (q : H' a = H a) (h : ObR K μ H o a) : ObR K μ' H' o a := by
  cases o with
  | lst ds =>
    obtain ⟨vs, e1, e2, e3⟩ := h
    exact ⟨vs, q.trans e1, RpA.le e ds vs e2, e3⟩
theorem StOk.freshOk (h : StOk K μ H S) {p : Addr} (hp : H p = none) (o : HO) : StOk K μ (upd H p o) S :=
  ⟨h.len, h.nd, fun i ob a e1 e2 => (h.ob i ob a e1 e2).le (h.fresh hp o).le (by
    obtain ⟨u, e, _⟩ := h.mem (List.mem_of_getElem? e2)
    rw [upd_ne (ne_of_none e hp)])⟩
/-- a list of one's own that the store takes up -/
theorem StOk.take (h : StOk K μ H S) {p : Addr} {vs : List V} {ds : List D} (hp : p ∉ μ) (hv : H p = some (.lst vs)) (r : RpA K μ H ds vs) (hz : ds.length ≤ sizeLine) : StOk K (μ ++ [p]) H (S ++ [.lst ds]) := by
  refine ⟨by rw [List.length_append, List.length_append, h.len]; rfl, ?_, fun i o a e1 e2 => ?_⟩
  · rw [List.nodup_append]
    exact ⟨h.nd, by simp, fun a ha b hb z => by
      have : b = p := by simpa using hb
      rw [z, this] at ha
      exact hp ha⟩
  · by_cases hi : i < S.length
    · rw [List.getElem?_append_left hi] at e1
      rw [List.getElem?_append_left (by rw [h.len]; exact hi)] at e2
      exact (h.ob i o a e1 e2).le (Le.more [p]) rfl
    · have hi2 : i = S.length := by
        have := (List.getElem?_eq_some_iff.mp e1).1
        rw [List.length_append] at this
        simp at this
        omega
      subst hi2
      rw [List.getElem?_append_right (Nat.le_refl _), Nat.sub_self] at e1
      rw [← h.len, List.getElem?_append_right (Nat.le_refl _), Nat.sub_self] at e2
      cases e1
      cases e2
      exact ⟨vs, hv, RpA.le (Le.more [p]) ds vs r, hz⟩
theorem Ext.take (e : Ext K μ H μ1 H1) {p : Addr} (hp : H p = none) : Ext K μ H (μ1 ++ [p]) H1 := by
  obtain ⟨l, rfl, n⟩ := e.pre
  refine ⟨⟨l ++ [p], by rw [List.append_assoc], fun a ha => ?_⟩, e.alive, e.fr, e.tup, e.fix⟩
  rcases List.mem_append.mp ha with h | h
  · exact n a h
  · have : a = p := by simpa using h
    rw [this]; exact hp
/-- a list of the store is changed -/
theorem StOk.put (h : StOk K μ H S) {i : Nat} {p : Addr} {vs : List V} {ds : List D} (hi : μ[i]? = some p) (r : RpA K μ H ds vs) (hz : ds.length ≤ sizeLine) : Ext K μ H μ (upd H p (.lst vs)) ∧ StOk K μ (upd H p (.lst vs)) (S.set i (.lst ds)) := by
  have hm : p ∈ μ := List.mem_of_getElem? hi
  have ex : Ext K μ H μ (upd H p (.lst vs)) := h.ext ⟨[], by simp, fun a z => nomatch z⟩ (fun a z => by
    by_cases e : a = p
    · rw [e, upd_same] at z; cases z
    · rw [upd_ne e] at z; exact z) fun a u z q => by
      rw [upd_ne (fun e => q (by rw [e]; exact hm))]
      exact z
  refine ⟨ex, by rw [List.length_set]; exact h.len, h.nd, fun j o a e1 e2 => ?_⟩
  by_cases hj : i = j
  · subst hj
    rw [hi] at e2
    cases e2
    rw [List.getElem?_set_self (by rw [← h.len]; exact (List.getElem?_eq_some_iff.mp hi).1)] at e1
    cases e1
    exact ⟨vs, upd_same, RpA.mono ex r, hz⟩
  · rw [List.getElem?_set_ne hj] at e1
    have hne : a ≠ p := fun z => hj (by
      rw [z] at e2
      obtain ⟨h1, q1⟩ := List.getElem?_eq_some_iff.mp hi
      obtain ⟨h2, q2⟩ := List.getElem?_eq_some_iff.mp e2
      exact (List.getElem_inj h.nd).mp (q1.trans q2.symm))
    exact (h.ob j o a e1 e2).le ex.le (upd_ne hne)
theorem StOk.lst (h : StOk K μ H S) {i : Nat} {a : Addr} {ds : List D} (e1 : S[i]? = some (.lst ds)) (e2 : μ[i]? = some a) : ∃ vs, H a = some (.lst vs) ∧ RpA K μ H ds vs ∧ ds.length ≤ sizeLine := h.ob i _ a e1 e2
end
end PQ

/-! The language: its syntax and what it says. -/
namespace PQ
open PySem PySem.Spec PyProof.Rows L2

inductive Res (α : Type) where
  | ok (a : α) (S : Sto)
  | exc (c : Str) (fs : List (Str × D)) (S : Sto)
  | bad
def Res.bind {α β : Type} : Res α → (α → Sto → Res β) → Res β
  | .ok a S, f => f a S
  | .exc c fs S, _ => .exc c fs S
  | .bad, _ => .bad
/-- a wish that is granted, or nothing -/
noncomputable def ask {α : Type} (p : Prop) (r : Res α) : Res α := open Classical in if p then r else .bad
def may {α β : Type} (o : Option α) (f : α → Res β) : Res β := match o with
  | some a => f a
  | none => .bad

inductive Bop | add | sub | mul | fdiv | mod | pow | shl | shr | band | bor | bxor
inductive Cop | eq | ne | lt | le | gt | ge
inductive Ag | len | sum | all | any | min | max | tuple
inductive F1 | int | abs | str
inductive F2 | min | max | gcd
inductive Ty | int | bool | str | tuple
/-- targets: a name, a row of names -/
inductive CN
  | nm (i : Nat)
  | tup (is : List Nat)

mutual
inductive CE where
  | var (i : Nat)
  | lit (d : D)
  | tup (es : CEs)
  | alloc (q : CQ)
  | bin (o : Bop) (a b : CE)
  | neg (a : CE)
  | cmp (o : Cop) (a b : CE)
  | chn (o p : Cop) (a b c : CE)
  | isN (a : CE)
  | notN (a : CE)
  | inr (a : CE) (r : CR)
  | notInr (a : CE) (r : CR)
  | and (a b : CE)
  | or (a b : CE)
  | not (a : CE)
  | ife (t : CT) (a b : CE)
  | idx (a i : CE)
  | slc (a : CE) (lo hi : CO)
  | call (f : Nat) (es : CEs)
  | fn1 (f : F1) (a : CE)
  | fn2 (f : F2) (a b : CE)
  | agg (f : Ag) (r : CR)
  | isi (a : CE) (t : Ty)
  | app (l x : CE)
  | ext (l : CE) (r : CR)
  | pop (l : CE)
  | popAt (l i : CE)
  | join (s : Str) (r : CR)
  | tix (a i : CE)
inductive CO where
  | none
  | some (e : CE)
inductive CEs where
  | nil
  | cons (a : CE) (r : CEs)
inductive CQ where
  | disp (es : CEs)
  | comp (own : List Nat) (g : CN) (it : CI) (elt : CE)
  | compIf (own : List Nat) (g : CN) (it : CI) (t : CT) (elt : CE)
  | cat (a b : CR)
  | sorted (r : CR)
  | list (r : CR)
  | listRg (a b : CE)
  | rev (r : CR)
inductive CR where
  | q (c : CQ)
  | e (c : CE)
inductive CI where
  | r (c : CR)
  | rg (a b : CE)
inductive CT where
  | v (e : CE)
  | and (a b : CT)
  | or (a b : CT)
  | not (a : CT)
end
mutual
inductive CS where
  | set (g : CN) (e : CE)
  | par (i j : Nat) (a b : CE)
  | sub (o i e : CE)
  | aug (i : Nat) (o : Bop) (e : CE)
  | augS (o i : CE) (p : Bop) (e : CE)
  | ex (e : CE)
  | ret (e : CE)
  | ite (t : CT) (a b : CSs)
  | for (g : CN) (it : CI) (b : CSs)
  | while (t : CT) (b : CSs)
  | brk
  | cont
  | pass
inductive CSs where
  | nil
  | cons (s : CS) (r : CSs)
end

/-! ### values -/
mutual
/-- pure data of a value; f: of the store's lists -/
def toPW (f : Nat → Option PyData) : D → Option PyData
  | .non => some .none
  | .bl b => some (.bool b)
  | .int i => some (.int i)
  | .str x => some (.str x)
  | .tup ds => (toPsW f ds).map .tuple
  | .fix ds => (toPsW f ds).map .list
  | .ref i => f i
def toPsW (f : Nat → Option PyData) : List D → Option (List PyData)
  | [] => some []
  | d :: ds => match toPW f d, toPsW f ds with
    | some p, some ps => some (p :: ps)
    | _, _ => none
end
/-- the store's lists by their contents, at most n deep -/
def refP (S : Sto) : Nat → Nat → Option PyData
  | 0, _ => none
  | n + 1, i => match S[i]? with
    | some (.lst ds) => (toPsW (refP S n) ds).map .list
    | none => none
def toP (S : Sto) (d : D) : Option PyData := toPW (refP S 8) d
def toPs (S : Sto) (ds : List D) : Option (List PyData) := toPsW (refP S 8) ds

def scalD : D → D → Bool
  | .non, .non => true | .non, .int _ => true | .int _, .non => true | .non, .bl _ => true | .bl _, .non => true | .non, .str _ => true | .str _, .non => true
  | .int _, .int _ => true | .bl _, .bl _ => true | .str _, .str _ => true
  | .int _, .str _ => true | .str _, .int _ => true | .bl _, .str _ => true | .str _, .bl _ => true
  | _, _ => false
def eqSc : D → D → Bool
  | .non, .non => true
  | .int i, .int j => decide (i = j)
  | .bl i, .bl j => decide (i = j)
  | .str i, .str j => decide (i = j)
  | _, _ => false
def dEq (S : Sto) (x y : D) : Option Bool :=
  if scalD x y = true then some (eqSc x y) else match toP S x, toP S y with
    | some p, some q => if (SeqAt.shaped p && SeqAt.shaped q) = true then some (PyData.eqv p q) else none
    | _, _ => none
def tru (S : Sto) : D → Option Bool
  | .non => some false
  | .bl b => some b
  | .int i => some (i != 0)
  | .str x => if x.length ≤ sizeLine then some (x.length != 0) else none
  | .tup ds => some (!ds.isEmpty)
  | .fix ds => some (!ds.isEmpty)
  | .ref i => match S[i]? with
    | some (.lst ds) => some (!ds.isEmpty)
    | none => none
def FDivOk (i j : Int) : Prop := j ≠ 0 ∧ Builtin.divisionGoesByPylong i j = false
noncomputable def binD (o : Bop) (x y : D) (S : Sto) : Res D :=
  match o, x, y with
  | .add, .int i, .int j => .ok (.int (i + j)) S
  | .add, .str a, .str b => ask (a.length + b.length ≤ sizeLine) (.ok (.str (a ++ b)) S)
  | .add, .tup a, .tup b => ask (a.length + b.length ≤ sizeLine) (.ok (.tup (a ++ b)) S)
  | .add, .ref i, .ref j => match S[i]?, S[j]? with
    | some (.lst a), some (.lst b) => ask (a.length + b.length ≤ sizeLine) (.ok (.ref S.length) (S ++ [.lst (a ++ b)]))
    | _, _ => .bad
  | .sub, .int i, .int j => .ok (.int (i - j)) S
  | .mul, .int i, .int j => ask (IntMulOk i j) (.ok (.int (i * j)) S)
  | .mul, .ref i, .int k => match S[i]? with
    | some (.lst a) => ask (-(2 ^ 63) ≤ k ∧ k < 2 ^ 63 ∧ a.length * k.toNat ≤ sizeLine) (.ok (.ref S.length) (S ++ [.lst (List.replicate k.toNat a).flatten]))
    | none => .bad
  | .fdiv, .int i, .int j => ask (FDivOk i j) (.ok (.int (i.fdiv j)) S)
  | .mod, .int i, .int j => ask (j ≠ 0) (.ok (.int (i.fmod j)) S)
  | .pow, .int i, .int j => ask (CPow i j) (.ok (.int (i ^ j.toNat)) S)
  | .shl, .int i, .int j => ask (CPow i j) (.ok (.int (i * 2 ^ j.toNat)) S)
  | .shr, .int i, .int j => ask (0 ≤ j) (.ok (.int (i / 2 ^ j.toNat)) S)
  | .band, .int i, .int j => .ok (.int (Builtin.bitAnd i j)) S
  | .bor, .int i, .int j => .ok (.int (Builtin.bitOr i j)) S
  | .bxor, .int i, .int j => .ok (.int (Builtin.bitXor i j)) S
  | _, _, _ => .bad
def augD (o : Bop) (x y : D) (S : Sto) : Res D :=
  match o, x, y with
  | .add, .int i, .int j => .ok (.int (i + j)) S
  | .sub, .int i, .int j => .ok (.int (i - j)) S
  | .add, .str a, .str b => if a.length + b.length ≤ sizeLine then .ok (.str (a ++ b)) S else .bad
  | _, _, _ => .bad
def isNon : D → Bool
  | .non => true
  | _ => false
def cmpI (f : Int → Int → Bool) (x y : D) (S : Sto) : Res D := match x, y with
  | .int i, .int j => .ok (.bl (f i j)) S
  | _, _ => .bad
def cmpD (o : Cop) (x y : D) (S : Sto) : Res D :=
  match o with
  | .eq => may (dEq S x y) fun b => .ok (.bl b) S
  | .ne => may (dEq S x y) fun b => .ok (.bl (!b)) S
  | .lt => cmpI (fun i j => decide (i < j)) x y S
  | .le => cmpI (fun i j => decide (i ≤ j)) x y S
  | .gt => cmpI (fun i j => decide (j < i)) x y S
  | .ge => cmpI (fun i j => decide (j ≤ i)) x y S
/-- a walked thing: one's own list, or a value -/
inductive RV
  | own (ds : List D)
  | val (d : D)
/-- a list (tracked or fixed) by its items -/
def lsOf (S : Sto) : RV → Option (List D)
  | .own ds => some ds
  | .val (.fix ds) => some ds
  | .val (.ref i) => match S[i]? with
    | some (.lst ds) => some ds
    | none => none
  | _ => none
/-- .. a list that may change -/
def trOf (S : Sto) : RV → Option (List D)
  | .own ds => some ds
  | .val (.ref i) => match S[i]? with
    | some (.lst ds) => some ds
    | none => none
  | _ => none
/-- .. or a tuple -/
def sqOf (S : Sto) : RV → Option (List D)
  | .val (.tup ds) => some ds
  | r => lsOf S r
/-- .. or a text by its letters -/
def lettersD (z : Str) : List D := z.cps.toList.map fun c => D.str ⟨#[c]⟩
def lstOf (S : Sto) (r : RV) : Option (List D) := match r with
  | .val (.str z) => if z.length ≤ sizeLine then some (lettersD z) else none
  | r => sqOf S r
def intsOf : List D → Option (List Int)
  | [] => some []
  | .int i :: r => (intsOf r).map (i :: ·)
  | _ => none
def boolsOf : List D → Option (List Bool)
  | [] => some []
  | .bl b :: r => (boolsOf r).map (b :: ·)
  | _ => none
def strsOf : List D → Option (List Str)
  | [] => some []
  | .str x :: r => (strsOf r).map (x :: ·)
  | _ => none
def greatest : List Int → Option Int
  | [] => none
  | [x] => some x
  | x :: r => (greatest r).map fun m => if x < m then m else x
def least : List Int → Option Int
  | [] => none
  | [x] => some x
  | x :: r => (least r).map fun m => if m < x then m else x
def aggD (f : Ag) (r : RV) (S : Sto) : Res D :=
  match f with
  | .len => match r with
    | .val (.str x) => if x.length ≤ sizeLine then .ok (.int x.length) S else .bad
    | r => may (sqOf S r) fun ds => .ok (.int ds.length) S
  | .sum => may (lsOf S r) fun ds => may (intsOf ds) fun ns => .ok (.int ns.sum) S
  | .all => may (lsOf S r) fun ds => may (boolsOf ds) fun bs => .ok (.bl (bs.all id)) S
  | .any => may (lsOf S r) fun ds => may (boolsOf ds) fun bs => .ok (.bl (bs.any id)) S
  | .max => may (lsOf S r) fun ds => may (intsOf ds) fun ns => may (greatest ns) fun m => .ok (.int m) S
  | .min => may (lsOf S r) fun ds => may (intsOf ds) fun ns => may (least ns) fun m => .ok (.int m) S
  | .tuple => may (sqOf S r) fun ds => .ok (.tup ds) S
def fn1D (f : F1) (x : D) (S : Sto) : Res D :=
  match f, x with
  | .int, .int i => .ok (.int i) S
  | .int, .bl b => .ok (.int (if b then 1 else 0)) S
  | .abs, .int i => .ok (.int (if i < 0 then -i else i)) S
  | .str, .int i => if i.natAbs.log2 < 1920 then .ok (.str (toString i)) S else .bad
  | _, _ => .bad
def fn2D (f : F2) (x y : D) (S : Sto) : Res D :=
  match f, x, y with
  | .min, .int i, .int j => .ok (.int (if j < i then j else i)) S
  | .max, .int i, .int j => .ok (.int (if j > i then j else i)) S
  | .gcd, .int i, .int j => .ok (.int ((Nat.gcd i.natAbs j.natAbs : Nat) : Int)) S
  | _, _, _ => .bad
def tyB (t : Ty) (S : Sto) : D → Option Bool
  | .non => some false
  | .bl _ => some (match t with | .int => true | .bool => true | _ => false)
  | .int _ => some (match t with | .int => true | _ => false)
  | .str _ => some (match t with | .str => true | _ => false)
  | .tup _ => some (match t with | .tuple => true | _ => false)
  | .fix _ => some false
  | .ref i => match S[i]? with
    | some (.lst _) => some false
    | none => none
def idxD (x i : D) (S : Sto) : Res D :=
  match x, i with
  | .tup ds, .int i => may (atI ds i) fun d => .ok d S
  | .fix ds, .int i => may (atI ds i) fun d => .ok d S
  | .ref a, .int i => match S[a]? with
    | some (.lst ds) => may (atI ds i) fun d => .ok d S
    | none => .bad
  | .str z, .int i => if z.length ≤ sizeLine then may (atI z.cps.toList i) fun c => .ok (.str ⟨#[c]⟩) S else .bad
  | _, _ => .bad
def cutD (ds : List D) (lo hi : Option Int) : List D := (ds.drop (HT.sIx ds.length 0 lo)).take (HT.sIx ds.length ds.length hi - HT.sIx ds.length 0 lo)
def slcD (x : D) (lo hi : Option Int) (S : Sto) : Res D :=
  match x with
  | .tup ds => .ok (.tup (cutD ds lo hi)) S
  | .fix ds => .ok (.ref S.length) (S ++ [.lst (cutD ds lo hi)])
  | .ref a => match S[a]? with
    | some (.lst ds) => .ok (.ref S.length) (S ++ [.lst (cutD ds lo hi)])
    | none => .bad
  | .str z => if z.length ≤ sizeLine then .ok (.str (cutS z lo hi)) S else .bad
  | _ => .bad
/-- a list of the store -/
def withL {α : Type} (S : Sto) (x : D) (f : Nat → List D → Res α) : Res α :=
  match x with
  | .ref a => match S[a]? with
    | some (.lst ds) => f a ds
    | none => .bad
  | _ => .bad
def setD (x i v : D) (S : Sto) : Res Unit := withL S x fun a ds => match i with
  | .int i => may (ixN ds.length i) fun j => .ok () (S.set a (.lst (ds.set j v)))
  | _ => .bad
def appD (x v : D) (S : Sto) : Res D := withL S x fun a ds => if ds.length < sizeLine then .ok .non (S.set a (.lst (ds ++ [v]))) else .bad
def extD (x : D) (r : RV) (S : Sto) : Res D := withL S x fun a ds => may (trOf S r) fun es => if ds.length + es.length ≤ sizeLine then .ok .non (S.set a (.lst (ds ++ es))) else .bad
def popD (x : D) (S : Sto) : Res D := withL S x fun a ds => may ds[ds.length - 1]? fun d => .ok d (S.set a (.lst ds.dropLast))
def popAtD (x i : D) (S : Sto) : Res D := withL S x fun a ds => match i with
  | .int i => if -(2 ^ 63) ≤ i ∧ i < 2 ^ 63 then may (seqIndex? i ds.length) fun k => may ds[k]? fun d => .ok d (S.set a (.lst (ds.eraseIdx k))) else .bad
  | _ => .bad
/-- a target takes a value -/
def setAll : List Nat → List D → En → Option En
  | [], [], ρ => some ρ
  | i :: is, d :: ds, ρ => setAll is ds (ρ.set i (some d))
  | _, _, _ => none
def bindN (g : CN) (d : D) (ρ : En) (S : Sto) : Option En :=
  match g with
  | .nm i => some (ρ.set i (some d))
  | .tup is => (sqOf S (.val d)).bind fun ds => setAll is ds ρ
/-- flows -/
inductive Fl
  | nx (ρ : En)
  | bk (ρ : En)
  | ct (ρ : En)
  | rt (d : D)
/-- what is walked: the items, and whether the walked list must stand still -/
structure Itv where
  items : List D
  at_ : Option Nat
def Itv.still (t : Itv) (S : Sto) : Prop := match t.at_ with
  | none => True
  | some i => S[i]? = some (.lst t.items)
noncomputable def loopQ (C : Sto → Prop) (f : D → Sto → Res (Option D)) : List D → Sto → Res (List D)
  | [], S => ask (C S) (.ok [] S)
  | d :: ds, S => ask (C S) ((f d S).bind fun o S1 => (loopQ C f ds S1).bind fun r S2 => .ok (match o with | some x => x :: r | none => r) S2)
noncomputable def loopS (C : Sto → Prop) (f : D → En → Sto → Res Fl) : List D → En → Sto → Res Fl
  | [], ρ, S => ask (C S) (.ok (.nx ρ) S)
  | d :: ds, ρ, S => ask (C S) ((f d ρ S).bind fun fl S1 => match fl with
    | .nx ρ' => loopS C f ds ρ' S1
    | .ct ρ' => loopS C f ds ρ' S1
    | .bk ρ' => .ok (.nx ρ') S1
    | .rt d => .ok (.rt d) S1)
def whileS (t : En → Sto → Res Bool) (b : En → Sto → Res Fl) : Nat → En → Sto → Res Fl
  | 0, _, _ => .bad
  | n + 1, ρ, S => (t ρ S).bind fun c S1 => if c = true then (b ρ S1).bind fun fl S2 => (match fl with
      | .nx ρ' => whileS t b n ρ' S2
      | .ct ρ' => whileS t b n ρ' S2
      | .bk ρ' => .ok (.nx ρ') S2
      | .rt d => .ok (.rt d) S2) else .ok (.nx ρ) S1
def turns : Nat := 1000000000000
def wipeE (ρ : En) : List Nat → En
  | [] => ρ
  | v :: vs => (wipeE ρ vs).set v none
def rgD (i j : Int) : List D := (List.range (j - i).toNat).map fun k => D.int (i + (k : Nat))
def bd62 (i : Int) : Prop := -(2 ^ 62) ≤ i ∧ i < 2 ^ 62
abbrev Orc := Nat → List D → Sto → Res D
def itOf (r : RV) (S : Sto) : Option Itv := match r with
  | .val (.str z) => some ⟨lettersD z, none⟩
  | .val (.ref i) => (sqOf S r).map fun ds => ⟨ds, some i⟩
  | r => (sqOf S r).map fun ds => ⟨ds, none⟩
def flatD : D → Bool
  | .non => true
  | .bl _ => true
  | .int _ => true
  | .str _ => true
  | _ => false
def eqF : D → D → Bool
  | .non, .non => true
  | .bl a, .bl b => a == b
  | .bl a, .int b => (if a then 1 else 0) == b
  | .int a, .bl b => a == (if b then 1 else 0)
  | .int a, .int b => a == b
  | .str a, .str b => a == b
  | _, _ => false
def inD (x : D) (r : RV) (S : Sto) : Option Bool := match sqOf S r with
  | some ds => if (flatD x && ds.all flatD) = true then some (ds.any fun y => eqF y x) else (match lsOf S r with
    | some ds => (match toP S x, toPs S ds with
      | some p, some ps => if (SeqAt.shaped p && SeqAt.shaped (.list ps)) = true then some (ps.any fun q => PyData.eqv q p) else none
      | _, _ => none)
    | none => none)
  | none => none
/-- t.index(i), of numbers -/
def tixD (ds : List D) (y : D) (S : Sto) : Res D := match y with
  | .int z => may (intsOf ds) fun ns => if z ∈ ns then .ok (.int ((ns.idxOf z : Nat) : Int)) S else .bad
  | _ => .bad
noncomputable def sortD (S : Sto) (ds : List D) : Res (List D) := match toPs S ds with
  | some ps => ask (PySem.W.AllAlike ps ∧ PySem.W.Sortable ps ∧ ∀ p ∈ ps, p.depth ≤ 64) (.ok (ds.mergeSort (PySem.W.dataLe false fun d => (toP S d).getD .none)) S)
  | none => .bad

mutual
noncomputable def evE (C : Orc) : CE → En → Sto → Res D
  | .var i, ρ, S => may ((ρ[i]?).bind id) fun d => .ok d S
  | .lit d, _, S => .ok d S
  | .tup es, ρ, S => (evEs C es ρ S).bind fun ds S1 => ask (ds.length ≤ sizeLine) (.ok (.tup ds) S1)
  | .alloc q, ρ, S => (evQ C q ρ S).bind fun ds S1 => .ok (.ref S1.length) (S1 ++ [.lst ds])
  | .bin o a b, ρ, S => (evE C a ρ S).bind fun x S1 => (evE C b ρ S1).bind fun y S2 => binD o x y S2
  | .neg a, ρ, S => (evE C a ρ S).bind fun x S1 => match x with
    | .int i => .ok (.int (-i)) S1
    | _ => .bad
  | .cmp o a b, ρ, S => (evE C a ρ S).bind fun x S1 => (evE C b ρ S1).bind fun y S2 => cmpD o x y S2
  | .chn o p a b c, ρ, S => (evE C a ρ S).bind fun x S1 => (evE C b ρ S1).bind fun y S2 => (cmpD o x y S2).bind fun z S3 => match z with
    | .bl true => (evE C c ρ S3).bind fun w S4 => cmpD p y w S4
    | .bl false => .ok (.bl false) S3
    | _ => .bad
  | .isN a, ρ, S => (evE C a ρ S).bind fun x S1 => .ok (.bl (isNon x)) S1
  | .notN a, ρ, S => (evE C a ρ S).bind fun x S1 => .ok (.bl (!isNon x)) S1
  | .inr a r, ρ, S => (evE C a ρ S).bind fun x S1 => (evR C r ρ S1).bind fun v S2 => may (inD x v S2) fun b => .ok (.bl b) S2
  | .notInr a r, ρ, S => (evE C a ρ S).bind fun x S1 => (evR C r ρ S1).bind fun v S2 => may (inD x v S2) fun b => .ok (.bl (!b)) S2
  | .and a b, ρ, S => (evE C a ρ S).bind fun x S1 => may (tru S1 x) fun k => if k = true then evE C b ρ S1 else .ok x S1
  | .or a b, ρ, S => (evE C a ρ S).bind fun x S1 => may (tru S1 x) fun k => if k = true then .ok x S1 else evE C b ρ S1
  | .not a, ρ, S => (evE C a ρ S).bind fun x S1 => may (tru S1 x) fun k => .ok (.bl (!k)) S1
  | .ife t a b, ρ, S => (evT C t ρ S).bind fun k S1 => if k = true then evE C a ρ S1 else evE C b ρ S1
  | .idx a i, ρ, S => (evE C a ρ S).bind fun x S1 => (evE C i ρ S1).bind fun y S2 => idxD x y S2
  | .slc a lo hi, ρ, S => (evE C a ρ S).bind fun x S1 => (evO C lo ρ S1).bind fun l S2 => (evO C hi ρ S2).bind fun u S3 => slcD x l u S3
  | .call f es, ρ, S => (evEs C es ρ S).bind fun ds S1 => C f ds S1
  | .fn1 f a, ρ, S => (evE C a ρ S).bind fun x S1 => fn1D f x S1
  | .fn2 f a b, ρ, S => (evE C a ρ S).bind fun x S1 => (evE C b ρ S1).bind fun y S2 => fn2D f x y S2
  | .agg f r, ρ, S => (evR C r ρ S).bind fun v S1 => aggD f v S1
  | .isi a t, ρ, S => (evE C a ρ S).bind fun x S1 => may (tyB t S1 x) fun b => .ok (.bl b) S1
  | .app l x, ρ, S => (evE C l ρ S).bind fun o S1 => withL S1 o fun _ _ => (evE C x ρ S1).bind fun v S2 => appD o v S2
  | .ext l r, ρ, S => (evE C l ρ S).bind fun o S1 => withL S1 o fun _ _ => (evR C r ρ S1).bind fun v S2 => extD o v S2
  | .pop l, ρ, S => (evE C l ρ S).bind fun o S1 => popD o S1
  | .popAt l i, ρ, S => (evE C l ρ S).bind fun o S1 => withL S1 o fun _ _ => (evE C i ρ S1).bind fun v S2 => popAtD o v S2
  | .join s r, ρ, S => (evR C r ρ S).bind fun v S1 => may (sqOf S1 v) fun ds => may (strsOf ds) fun ys => ask ((ys.map (·.length)).sum + ys.length * s.length ≤ 16777216) (.ok (.str (Txt.join s ys)) S1)
  | .tix a i, ρ, S => (evE C a ρ S).bind fun x S1 => match x with
    | .tup ds => (evE C i ρ S1).bind fun y S2 => tixD ds y S2
    | _ => .bad
noncomputable def evO (C : Orc) : CO → En → Sto → Res (Option Int)
  | .none, _, S => .ok none S
  | .some e, ρ, S => (evE C e ρ S).bind fun x S1 => match x with
    | .int i => .ok (some i) S1
    | _ => .bad
noncomputable def evEs (C : Orc) : CEs → En → Sto → Res (List D)
  | .nil, _, S => .ok [] S
  | .cons a r, ρ, S => (evE C a ρ S).bind fun d S1 => (evEs C r ρ S1).bind fun ds S2 => .ok (d :: ds) S2
noncomputable def evQ (C : Orc) : CQ → En → Sto → Res (List D)
  | .disp es, ρ, S => (evEs C es ρ S).bind fun ds S1 => ask (ds.length ≤ sizeLine) (.ok ds S1)
  | .comp own g it elt, ρ, S => (evI C it ρ S).bind fun t S1 => ask (t.items.length ≤ sizeLine) (loopQ t.still (fun d S2 => may (bindN g d (wipeE ρ own) S2) fun ρ' => (evE C elt ρ' S2).bind fun x S3 => .ok (some x) S3) t.items S1)
  | .compIf own g it c elt, ρ, S => (evI C it ρ S).bind fun t S1 => ask (t.items.length ≤ sizeLine) (loopQ t.still (fun d S2 => may (bindN g d (wipeE ρ own) S2) fun ρ' => (evT C c ρ' S2).bind fun k S3 => if k = true then (evE C elt ρ' S3).bind fun x S4 => .ok (some x) S4 else .ok none S3) t.items S1)
  | .cat a b, ρ, S => (evR C a ρ S).bind fun v S1 => (evR C b ρ S1).bind fun w S2 => may (trOf S2 v) fun x => may (trOf S2 w) fun y => ask (x.length + y.length ≤ sizeLine) (.ok (x ++ y) S2)
  | .sorted r, ρ, S => (evR C r ρ S).bind fun v S1 => may (lsOf S1 v) fun ds => sortD S1 ds
  | .list r, ρ, S => (evR C r ρ S).bind fun v S1 => may (lstOf S1 v) fun ds => .ok ds S1
  | .listRg a b, ρ, S => (evE C a ρ S).bind fun x S1 => (evE C b ρ S1).bind fun y S2 => match x, y with
    | .int i, .int j => ask (RgOk i j) (.ok (rgD i j) S2)
    | _, _ => .bad
  | .rev r, ρ, S => (evR C r ρ S).bind fun v S1 => may (lsOf S1 v) fun ds => .ok ds.reverse S1
noncomputable def evR (C : Orc) : CR → En → Sto → Res RV
  | .q c, ρ, S => (evQ C c ρ S).bind fun ds S1 => .ok (.own ds) S1
  | .e c, ρ, S => (evE C c ρ S).bind fun d S1 => .ok (.val d) S1
noncomputable def evI (C : Orc) : CI → En → Sto → Res Itv
  | .r c, ρ, S => (evR C c ρ S).bind fun v S1 => may (itOf v S1) fun t => .ok t S1
  | .rg a b, ρ, S => (evE C a ρ S).bind fun x S1 => (evE C b ρ S1).bind fun y S2 => match x, y with
    | .int i, .int j => ask (bd62 i ∧ bd62 j) (.ok ⟨rgD i j, none⟩ S2)
    | _, _ => .bad
noncomputable def evT (C : Orc) : CT → En → Sto → Res Bool
  | .v e, ρ, S => (evE C e ρ S).bind fun x S1 => may (tru S1 x) fun k => .ok k S1
  | .and a b, ρ, S => (evT C a ρ S).bind fun k S1 => if k = true then evT C b ρ S1 else .ok false S1
  | .or a b, ρ, S => (evT C a ρ S).bind fun k S1 => if k = true then .ok true S1 else evT C b ρ S1
  | .not a, ρ, S => (evT C a ρ S).bind fun k S1 => .ok (!k) S1
end
mutual
noncomputable def evS (C : Orc) : CS → En → Sto → Res Fl
  | .set g e, ρ, S => (evE C e ρ S).bind fun d S1 => may (bindN g d ρ S1) fun ρ' => .ok (.nx ρ') S1
  | .par i j a b, ρ, S => (evE C a ρ S).bind fun x S1 => (evE C b ρ S1).bind fun y S2 => .ok (.nx ((ρ.set i (some x)).set j (some y))) S2
  | .sub o i e, ρ, S => (evE C e ρ S).bind fun d S1 => (evE C o ρ S1).bind fun x S2 => (evE C i ρ S2).bind fun y S3 => (setD x y d S3).bind fun _ S4 => .ok (.nx ρ) S4
  | .aug i p e, ρ, S => may ((ρ[i]?).bind id) fun x => (evE C e ρ S).bind fun y S1 => (augD p x y S1).bind fun z S2 => .ok (.nx (ρ.set i (some z))) S2
  | .augS o i p e, ρ, S => (evE C o ρ S).bind fun x S1 => (evE C i ρ S1).bind fun y S2 => withL S2 x fun _ ds => match y with
    | .int j => may (atI ds j) fun v => (evE C e ρ S2).bind fun w S4 => (augD p v w S4).bind fun z S5 => (setD x (.int j) z S5).bind fun _ S6 => .ok (.nx ρ) S6
    | _ => .bad
  | .ex e, ρ, S => (evE C e ρ S).bind fun _ S1 => .ok (.nx ρ) S1
  | .ret e, ρ, S => (evE C e ρ S).bind fun d S1 => .ok (.rt d) S1
  | .ite t a b, ρ, S => (evT C t ρ S).bind fun k S1 => if k = true then evSs C a ρ S1 else evSs C b ρ S1
  | .for g it b, ρ, S => (evI C it ρ S).bind fun t S1 => loopS t.still (fun d ρ1 S2 => may (bindN g d ρ1 S2) fun ρ2 => evSs C b ρ2 S2) t.items ρ S1
  | .while t b, ρ, S => whileS (evT C t) (evSs C b) turns ρ S
  | .brk, ρ, S => .ok (.bk ρ) S
  | .cont, ρ, S => .ok (.ct ρ) S
  | .pass, ρ, S => .ok (.nx ρ) S
noncomputable def evSs (C : Orc) : CSs → En → Sto → Res Fl
  | .nil, ρ, S => .ok (.nx ρ) S
  | .cons s r, ρ, S => (evS C s ρ S).bind fun fl S1 => match fl with
    | .nx ρ' => evSs C r ρ' S1
    | f => .ok f S1
end
end PQ

/-! What the language says, the machine does: expressions. -/
namespace L2
open PySem PySem.Spec PyProof.Rows
theorem PE.pq {X : Cx} {e : Expr} {t t' : TE} (h : PE X e t) (q : ∀ σ H Q, t' σ H Q → t σ H Q) : PE X e t' := ⟨fun pins s σ H Q I hw => h.run pins s σ H Q I (q σ H Q hw)⟩
theorem PT.pq {X : Cx} {e : Expr} {t t' : TT} (h : PT X e t) (q : ∀ σ H Q, t' σ H Q → t σ H Q) : PT X e t' := ⟨fun pins s σ H Q I hw => h.run pins s σ H Q I (q σ H Q hw)⟩
theorem PW.pq {X : Cx} {e : Expr} {t t' : TT} (h : PW X e t) (q : ∀ σ H Q, t' σ H Q → t σ H Q) : PW X e t' := ⟨fun w pins s σ H Q I hw => h.run w pins s σ H Q I (q σ H Q hw)⟩
theorem PA.pq {X : Cx} {e : List Expr} {t t' : TA} (h : PA X e t) (q : ∀ σ H Q, t' σ H Q → t σ H Q) : PA X e t' := ⟨fun pos pins s σ H Q I hw => h.run pos pins s σ H Q I (q σ H Q hw)⟩
theorem PO.pq {X : Cx} {e : Option Expr} {t t' : TO} (h : PO X e t) (q : ∀ σ H Q, t' σ H Q → t σ H Q) : PO X e t' := ⟨fun pins s σ H Q I hw => h.run pins s σ H Q I (q σ H Q hw)⟩

end L2

namespace PQ
open PySem PySem.Spec PyProof.Rows L2
abbrev Slots := L2.St

section
variable {K : Fg} {μ μ' μ1 : List Addr} {H H' H1 : Hp} {S S' : Sto} {σ : Slots} {ρ : En} {α β : Type}
/-- an answer, and what is wanted behind it -/
def Po (K : Fg) (μ : List Addr) (H : Hp) (r : Res α) (P : α → Sto → List Addr → Hp → Prop) : Prop := match r with
  | .ok a S' => ∀ μ' H', Ext K μ H μ' H' → StOk K μ' H' S' → P a S' μ' H'
  | _ => False
theorem Po.later {r : Res α} {P : α → Sto → List Addr → Hp → Prop} (e : Ext K μ H μ' H') (h : Po K μ H r P) : Po K μ' H' r P := by
  cases r with
  | ok a S' => exact fun μ2 H2 e2 s2 => h μ2 H2 (e.trans e2) s2
  | exc c fs S' => exact h
  | bad => exact h
theorem Po.imp {r : Res α} {P P' : α → Sto → List Addr → Hp → Prop} (h : Po K μ H r P) (q : ∀ a S' μ' H', r = .ok a S' → Ext K μ H μ' H' → StOk K μ' H' S' → P a S' μ' H' → P' a S' μ' H') : Po K μ H r P' := by
  cases r with
  | ok a S' => exact fun μ2 H2 e2 s2 => q a S' μ2 H2 rfl e2 s2 (h μ2 H2 e2 s2)
  | exc c fs S' => exact h
  | bad => exact h
theorem Po.bind {r : Res α} {f : α → Sto → Res β} {P : β → Sto → List Addr → Hp → Prop} (h : Po K μ H (r.bind f) P) : Po K μ H r fun a S' μ' H' => Po K μ' H' (f a S') P := by
  cases r with
  | ok a S' => exact fun μ2 H2 e2 s2 => Po.later e2 h
  | exc c fs S' => exact h
  | bad => exact h
theorem Po.ask {p : Prop} {r : Res α} {P : α → Sto → List Addr → Hp → Prop} (h : Po K μ H (ask p r) P) : p ∧ Po K μ H r P := by
  unfold PQ.ask at h
  split at h
  · exact ⟨by assumption, h⟩
  · exact h.elim
theorem Po.ite {p : Prop} [Decidable p] {r : Res α} {P : α → Sto → List Addr → Hp → Prop} (h : Po K μ H (if p then r else .bad) P) : p ∧ Po K μ H r P := by
  split at h
  · exact ⟨by assumption, h⟩
  · exact h.elim
theorem Po.may {o : Option β} {f : β → Res α} {P : α → Sto → List Addr → Hp → Prop} (h : Po K μ H (may o f) P) : ∃ a, o = some a ∧ Po K μ H (f a) P := by
  cases o with
  | none => exact h.elim
  | some a => exact ⟨a, rfl, h⟩
theorem Po.at {a : α} {P : α → Sto → List Addr → Hp → Prop} (h : Po K μ H (.ok a S) P) (s : StOk K μ H S) : P a S μ H := h μ H .refl s

/-- the names -/
def EnvOk (K : Fg) (μ : List Addr) (H : Hp) (ρ : En) (σ : Slots) : Prop := σ.length = ρ.length ∧ ∀ (i : Nat) d, ρ[i]? = some (some d) → ∃ v, σ[i]? = some (some v) ∧ Rp K μ H d v
theorem EnvOk.mono (e : Ext K μ H μ' H') (h : EnvOk K μ H ρ σ) : EnvOk K μ' H' ρ σ := ⟨h.1, fun i d q => let ⟨v, e1, e2⟩ := h.2 i d q; ⟨v, e1, e2.mono e⟩⟩
theorem EnvOk.set (h : EnvOk K μ H ρ σ) {d : D} {v : V} (r : Rp K μ H d v) (i : Nat) : EnvOk K μ H (ρ.set i (some d)) (σ.set i (some v)) := by
  refine ⟨by rw [List.length_set, List.length_set]; exact h.1, fun j d' q => ?_⟩
  by_cases hj : i = j
  · subst hj
    by_cases hi : i < ρ.length
    · rw [List.getElem?_set_self hi] at q
      cases q
      exact ⟨v, List.getElem?_set_self (by rw [h.1]; exact hi), r⟩
    · rw [List.getElem?_eq_none (by rw [List.length_set]; omega)] at q
      cases q
  · rw [List.getElem?_set_ne hj] at q ⊢
    exact h.2 j d' q
theorem EnvOk.wipe (h : EnvOk K μ H ρ σ) : ∀ vs : List Nat, EnvOk K μ H (wipeE ρ vs) (wipe σ vs)
  | [] => h
  | v :: vs => by
    have ih := EnvOk.wipe h vs
    refine ⟨by unfold wipeE L2.wipe; rw [List.length_set, List.length_set]; exact ih.1, fun j d q => ?_⟩
    unfold wipeE at q
    unfold L2.wipe
    by_cases hj : v = j
    · subst hj
      by_cases hi : v < (wipeE ρ vs).length
      · rw [List.getElem?_set_self hi] at q; cases q
      · rw [List.getElem?_eq_none (by rw [List.length_set]; omega)] at q; cases q
    · rw [List.getElem?_set_ne hj] at q ⊢
      exact ih.2 j d q

/-- a walked thing as it stands -/
def RvR (K : Fg) (μ : List Addr) (H : Hp) : RV → V → Prop
  | .own ds, v => ∃ a vs, v = .ref a ∧ H a = some (.lst vs) ∧ a ∉ μ ∧ RpA K μ H ds vs ∧ ds.length ≤ sizeLine
  | .val d, v => Rp K μ H d v
theorem Ext.notin (e : Ext K μ H μ' H') {a : Addr} {o : HO} (h : H a = some o) (n : a ∉ μ) : a ∉ μ' := by
  obtain ⟨l, rfl, q⟩ := e.pre
  intro m
  rcases List.mem_append.mp m with m | m
  · exact n m
  · rw [q a m] at h; cases h
theorem RvR.mono (e : Ext K μ H μ' H') {r : RV} {v : V} (h : RvR K μ H r v) : RvR K μ' H' r v := by
  cases r with
  | own ds =>
    obtain ⟨a, vs, h1, h2, h3, h4, h5⟩ := h
    exact ⟨a, vs, h1, e.fr a _ h2 h3, e.notin h2 h3, h4.mono e, h5⟩
  | val d => exact Rp.mono e h

/-! ### readings -/
def tE (K : Fg) (f : En → Sto → Res D) : TE := fun σ H Q => ∃ μ ρ S, EnvOk K μ H ρ σ ∧ StOk K μ H S ∧ Po K μ H (f ρ S) fun d _ μ' H' => ∀ v, Rp K μ' H' d v → Q v H'
def tT (K : Fg) (f : En → Sto → Res Bool) : TT := fun σ H Q => ∃ μ ρ S, EnvOk K μ H ρ σ ∧ StOk K μ H S ∧ Po K μ H (f ρ S) fun b _ _ H' => Q b H'
def tA (K : Fg) (f : En → Sto → Res (List D)) : TA := fun σ H Q => ∃ μ ρ S, EnvOk K μ H ρ σ ∧ StOk K μ H S ∧ Po K μ H (f ρ S) fun ds _ μ' H' => ∀ vs, RpA K μ' H' ds vs → Q vs H'
def tQ (K : Fg) (f : En → Sto → Res (List D)) : TE := fun σ H Q => ∃ μ ρ S, EnvOk K μ H ρ σ ∧ StOk K μ H S ∧ Po K μ H (f ρ S) fun ds _ μ' H' => ∀ a vs, H a = none → H' a = some (.lst vs) → a ∉ μ' → RpA K μ' H' ds vs → ds.length ≤ sizeLine → Q (.ref a) H'
def tR (K : Fg) (f : En → Sto → Res RV) : TE := fun σ H Q => ∃ μ ρ S, EnvOk K μ H ρ σ ∧ StOk K μ H S ∧ Po K μ H (f ρ S) fun r _ μ' H' => ∀ v, RvR K μ' H' r v → Q v H'
def tO (K : Fg) (f : En → Sto → Res (Option Int)) : TO := fun σ H Q => ∃ μ ρ S, EnvOk K μ H ρ σ ∧ StOk K μ H S ∧ Po K μ H (f ρ S) fun o _ _ H' => Q o H'

/-- a def's promise: what the oracle says of it -/
def spC (K : Fg) (C : Orc) (f : Nat) : Sp := fun vs H Q _ => ∃ μ ds S, StOk K μ H S ∧ RpA K μ H ds vs ∧ Po K μ H (C f ds S) fun d _ μ' H' => ∀ v, Rp K μ' H' d v → Q v H'

/-- what a module's name stands for: a value that stays, a built-in function -/
inductive Gv
  | con (d : D)
  | fn (id : String)
def GvOk (K : Fg) (mg : Str → Option Value) (x : Str) : Gv → Prop
  | .con d => ∃ v u, mg x = some u ∧ RelV v u ∧ ∀ μ H, Rp K μ H d v
  | .fn id => mg x = some (.builtin id)
/-- the place where a text stands: the defs' names, the built-ins' names, the def's names, its scope, the module's other names -/
structure Pl where
  T : List Str
  B : List Str
  N : List Str
  sc : Scope
  G : List (Str × Gv)
structure Good (X : Cx) (p : Pl) (C : Orc) : Prop where
  calm : X.calm = true
  nd : X.N.Nodup
  un : X.A.units + 80 < cLine
  own : PassesOwn (model X.prog X.w) X.A X.env X.xe
  N : X.N = p.N
  sc : X.env.scope = p.sc
  blt : ∀ x, x ∈ p.B → X.mg x = none
  glb : ∀ x g, (x, g) ∈ p.G → GvOk X.K X.mg x g
  fn : ∀ (i : Nat) x, p.T[i]? = some x → ∃ f fd ps k, X.mg x = some (.ref f) ∧ FnOk X.prog X.w X.K X.mg X.base CX0 k f fd ps (spC X.K C i) ∧ Room k X.A ∧ PySem.W.keepIn X.K (.ref f) = true ∧ Binds X.K fd ps []
end

/-! ### the judgements -/
def SdE (p : Pl) (e : Expr) (c : CE) : Prop := ∀ X C, Good X p C → PE X e (tE X.K (evE C c))
def SdT (p : Pl) (e : Expr) (c : CT) : Prop := ∀ X C, Good X p C → PT X e (tT X.K (evT C c))
def SdW (p : Pl) (e : Expr) (c : CT) : Prop := ∀ X C, Good X p C → PW X e (tT X.K (evT C c))
def SdA (p : Pl) (es : List Expr) (c : CEs) : Prop := ∀ X C, Good X p C → PA X es (tA X.K (evEs C c))
def SdQ (p : Pl) (e : Expr) (c : CQ) : Prop := ∀ X C, Good X p C → PE X e (tQ X.K (evQ C c))
def SdR (p : Pl) (e : Expr) (c : CR) : Prop := ∀ X C, Good X p C → PE X e (tR X.K (evR C c))
def SdO (p : Pl) (e : Option Expr) (c : CO) : Prop := ∀ X C, Good X p C → PO X e (tO X.K (evO C c))

section
variable {p : Pl} {a b c e : Expr} {ca cb cc : CE} {pos : Pos}
/-! ### names, constants -/
theorem sd_var {i : Nat} {x : Str} (hN : p.N[i]? = some x) (hv : Vis p.sc x) (hd : (x == ("__debug__" : Str)) = false) (hcd : (x == ("__classdict__" : Str)) = false) : SdE p (.Name x pos) (.var i) := fun X C g =>
  (pe_var (i := i) (by rw [g.N]; exact hN) (by rw [g.sc]; exact hv) hd hcd).pq fun σ H Q ⟨μ, ρ, S, he, hs, h⟩ => by
    unfold evE at h
    obtain ⟨d, e1, h⟩ := h.may
    have e2 : ρ[i]? = some (some d) := by
      cases q : ρ[i]? with
      | none => rw [q] at e1; cases e1
      | some o => rw [q] at e1; exact congrArg some e1
    obtain ⟨v, q1, q2⟩ := he.2 i d e2
    exact ⟨v, q1, h.at hs v q2⟩
theorem sd_lit {d : D} {v : V} (h : ∀ X : Cx, PE X e (tC v)) (r : ∀ K μ H, Rp K μ H d v) : SdE p e (.lit d) := fun X C g =>
  (h X).pq fun σ H Q ⟨μ, ρ, S, he, hs, h⟩ => by
    unfold evE at h
    exact h.at hs v (r _ _ _)
theorem sd_int {i j} : SdE p (.Constant (.int i) j pos) (.lit (.int i)) := sd_lit (v := .int i) (fun _ => pe_int) fun _ _ _ => rfl
theorem sd_bl {i j} : SdE p (.Constant (.bool i) j pos) (.lit (.bl i)) := sd_lit (v := .bl i) (fun _ => pe_bl) fun _ _ _ => rfl
theorem sd_non {j} : SdE p (.Constant .none j pos) (.lit .non) := sd_lit (v := .non) (fun _ => pe_non) fun _ _ _ => rfl
theorem sd_str {x j} : SdE p (.Constant (.str x) j pos) (.lit (.str x)) := sd_lit (v := .str x) (fun _ => pe_str) fun _ _ _ => rfl

/-! ### argument lists, displays -/
theorem sa_nil : SdA p [] .nil := fun X C g => pa_nil.pq fun σ H Q ⟨μ, ρ, S, he, hs, h⟩ => by
  unfold evEs at h
  exact h.at hs [] rfl
theorem sa_cons {es : List Expr} {r : CEs} (ha : SdE p a ca) (hr : SdA p es r) (hs : ∀ env, starEach (a :: es) env = (false, eval a env) :: starEach es env) : SdA p (a :: es) (.cons ca r) := fun X C g =>
  (pa_cons (ha X C g) (hr X C g) (hs _)).pq fun σ H Q ⟨μ, ρ, S, he, hs, h⟩ => by
    unfold evEs at h
    refine ⟨μ, ρ, S, he, hs, h.bind.imp fun d S1 μ1 H1 _ e1 s1 h1 v rv => ?_⟩
    refine ⟨μ1, ρ, S1, he.mono e1, s1, h1.bind.imp fun ds S2 μ2 H2 _ e2 s2 h2 vs rvs => ?_⟩
    exact h2.at s2 (v :: vs) (.cons (rv.mono e2) rvs)
theorem sd_tup {es : List Expr} {c : CEs} {k : Nat} (h : SdA p es c) : SdE p (.Tuple es k pos) (.tup c) := fun X C g =>
  (pe_tupN (h X C g)).pq fun σ H Q ⟨μ, ρ, S, he, hs, h⟩ => by
    unfold evE at h
    refine ⟨μ, ρ, S, he, hs, h.bind.imp fun ds S1 μ1 H1 _ e1 s1 h1 vs rvs => ?_⟩
    obtain ⟨z, h1⟩ := h1.ask
    refine ⟨by rw [← rvs.length]; exact z, fun q o hq c1 c2 => ?_⟩
    exact h1 μ1 _ (s1.fresh hq _) (s1.freshOk hq _) (.ref q) ⟨q, vs, rfl, .new c1 c2, rvs.mono (s1.fresh hq _), z⟩
theorem sq_disp {es : List Expr} {c : CEs} (h : SdA p es c) : SdQ p (.List es pos) (.disp c) := fun X C g =>
  (pe_lst (h X C g)).pq fun σ H Q ⟨μ, ρ, S, he, hs, h⟩ => by
    unfold evQ at h
    refine ⟨μ, ρ, S, he, hs, h.bind.imp fun ds S1 μ1 H1 _ e1 s1 h1 vs rvs => ?_⟩
    obtain ⟨z, h1⟩ := h1.ask
    refine ⟨by rw [← rvs.length]; exact z, fun q hq => ?_⟩
    refine h1 μ1 _ (s1.fresh hq _) (s1.freshOk hq _) q vs (e1.alive _ hq) upd_same (fun m => ?_) (rvs.mono (s1.fresh hq _)) z
    obtain ⟨u, e, _⟩ := s1.mem m
    rw [hq] at e; cases e
/-- a new list goes into the store -/
theorem sd_alloc {q : CQ} (h : SdQ p e q) : SdE p e (.alloc q) := fun X C g => (h X C g).pq fun σ H Q ⟨μ, ρ, S, he, hs, h⟩ => by
  unfold evE at h
  refine ⟨μ, ρ, S, he, hs, ?_⟩
  generalize evQ C q ρ S = r at h
  cases r with
  | ok ds S1 =>
    intro μ1 H1 e1 s1 a vs hn ha hm rvs hz
    refine h (μ1 ++ [a]) H1 (e1.take hn) (s1.take hm ha rvs hz) (.ref a) ⟨a, rfl, ?_⟩
    rw [← s1.len, List.getElem?_append_right (Nat.le_refl _), Nat.sub_self]
    rfl
  | exc c fs S' => exact h
  | bad => exact h
theorem sr_q {q : CQ} (h : SdQ p e q) : SdR p e (.q q) := fun X C g => (h X C g).pq fun σ H Q ⟨μ, ρ, S, he, hs, h⟩ => by
  unfold evR at h
  exact ⟨μ, ρ, S, he, hs, h.bind.imp fun ds S1 μ1 H1 _ e1 s1 h1 a vs hn ha hm rvs hz => h1.at s1 (.ref a) ⟨a, vs, rfl, ha, hm, rvs, hz⟩⟩
theorem sr_e (h : SdE p e ca) : SdR p e (.e ca) := fun X C g => (h X C g).pq fun σ H Q ⟨μ, ρ, S, he, hs, h⟩ => by
  unfold evR at h
  exact ⟨μ, ρ, S, he, hs, h.bind.imp fun d S1 μ1 H1 _ e1 s1 h1 v rv => h1.at s1 v rv⟩

/-! ### operators -/
/-- an operator of two values, by what it says of data -/
def OpS (g : D → D → Sto → Res D) (r : Fg → R2) : Prop := ∀ (K : Fg) (μ : List Addr) (H : Hp) (S : Sto) (x y : D) (v u : V) (Q : VK), StOk K μ H S → Rp K μ H x v → Rp K μ H y u → Po K μ H (g x y S) (fun d _ μ' H' => ∀ v, Rp K μ' H' d v → Q v H') → r K v u H Q
theorem tOp_imp {g : D → D → Sto → Res D} {r : Fg → R2} (hg : OpS g r) {K : Fg} {fa fb : En → Sto → Res D} {σ : Slots} {H : Hp} {Q : VK}
    (h : tE K (fun ρ S => (fa ρ S).bind fun x S1 => (fb ρ S1).bind fun y S2 => g x y S2) σ H Q) : tOp (r K) (tE K fa) (tE K fb) σ H Q := by
  obtain ⟨μ, ρ, S, he, hs, h⟩ := h
  refine ⟨μ, ρ, S, he, hs, h.bind.imp fun x S1 μ1 H1 _ e1 s1 h1 v rv => ?_⟩
  refine ⟨μ1, ρ, S1, he.mono e1, s1, h1.bind.imp fun y S2 μ2 H2 _ e2 s2 h2 u ru => ?_⟩
  exact hg K μ2 H2 S2 x y v u Q s2 (rv.mono e2) ru h2
theorem sd_bin {o : Bop} {op : Operator} {r : Fg → R2} (ho : ∀ X C, Good X p C → OpR X (binaryOp op) (r X.K)) (hg : OpS (binD o) r) (ha : SdE p a ca) (hb : SdE p b cb) : SdE p (.BinOp a op b pos) (.bin o ca cb) := fun X C g =>
  (pe_op (ho X C g) (ha X C g) (hb X C g)).pq fun σ H Q h => tOp_imp hg (by
    obtain ⟨μ, ρ, S, he, hs, h⟩ := h
    unfold evE at h
    exact ⟨μ, ρ, S, he, hs, h⟩)
theorem sd_cmp {o : Cop} {op : CmpOp} {r : Fg → R2} (ho : ∀ X C, Good X p C → OpR X (compareOp op) (r X.K)) (hg : OpS (cmpD o) r) (h1 : op ≠ .In) (h2 : op ≠ .NotIn) (ha : SdE p a ca) (hb : SdE p b cb) : SdE p (.Compare a [op] [b] pos) (.cmp o ca cb) := fun X C g =>
  (pe_cmpR (ho X C g) (ha X C g) (hb X C g) (nomark b h1 h2)).pq fun σ H Q h => tOp_imp hg (by
    obtain ⟨μ, ρ, S, he, hs, h⟩ := h
    unfold evE at h
    exact ⟨μ, ρ, S, he, hs, h⟩)

/-! the operators one by one -/
section
variable {K : Fg} {μ : List Addr} {H : Hp} {S : Sto} {x y d : D} {v u : V} {Q : VK}
theorem rp_tup {ds : List D} {p : Addr} {o : Obj} {vs : List V} (hs : StOk K μ H S) (hz : ds.length ≤ sizeLine) (r : RpA K μ H ds vs) (hp : H p = none) (c1 : o.cls = .type "tuple") (c2 : o.dict = none) : Rp K μ (upd H p (.frz o (.tup vs))) (.tup ds) (.ref p) :=
  ⟨p, vs, rfl, .new c1 c2, r.mono (hs.fresh hp _), hz⟩
/-- a new list at p that the store takes up -/
theorem take_new {ds : List D} {p : Addr} {vs : List V} (hs : StOk K μ H S) (hz : ds.length ≤ sizeLine) (r : RpA K μ H ds vs) (hp : H p = none) :
    Ext K μ H (μ ++ [p]) (upd H p (.lst vs)) ∧ StOk K (μ ++ [p]) (upd H p (.lst vs)) (S ++ [.lst ds]) ∧ Rp K (μ ++ [p]) (upd H p (.lst vs)) (.ref S.length) (.ref p) := by
  refine ⟨(hs.fresh hp _).take hp, (hs.freshOk hp _).take (fun m => ?_) upd_same (r.mono (hs.fresh hp _)) hz, p, rfl, ?_⟩
  · obtain ⟨w, e, _⟩ := hs.mem m
    rw [hp] at e; cases e
  · rw [← hs.len, List.getElem?_append_right (Nat.le_refl _), Nat.sub_self]
    rfl
theorem rp_ref {i : Nat} (r : Rp K μ H (.ref i) v) (hs : StOk K μ H S) {ds : List D} (e : S[i]? = some (.lst ds)) : ∃ a vs, v = .ref a ∧ μ[i]? = some a ∧ H a = some (.lst vs) ∧ RpA K μ H ds vs ∧ ds.length ≤ sizeLine := by
  obtain ⟨a, rfl, ea⟩ := r
  obtain ⟨vs, h1, h2, h3⟩ := hs.lst e ea
  exact ⟨a, vs, rfl, ea, h1, h2, h3⟩
end
end
end PQ

/-! The operators, subscripts, built-ins. -/
namespace PQ
open PySem PySem.Spec PyProof.Rows L2
section
variable {p : Pl} {a b c e : Expr} {ca cb cc : CE} {pos : Pos}
/-! ### arithmetic -/
theorem os_int {o : Bop} {g : Int → Int → Int} {C : Int → Int → Prop} (h1 : ∀ i j S, binD o (.int i) (.int j) S = ask (C i j) (.ok (.int (g i j)) S)) (h2 : ∀ x y S, (∀ i j, ¬ (x = .int i ∧ y = .int j)) → binD o x y S = .bad) : OpS (binD o) fun _ => rI C fun i j => .int (g i j) := by
  intro K μ H S x y v u Q hs rx ry h
  by_cases hc : ∃ i j, x = .int i ∧ y = .int j
  · obtain ⟨i, j, rfl, rfl⟩ := hc
    rw [h1] at h
    obtain ⟨hc, h⟩ := h.ask
    exact ⟨i, j, rx, ry, hc, h.at hs _ rfl⟩
  · rw [h2 x y S (fun i j z => hc ⟨i, j, z⟩)] at h
    exact h.elim
theorem os_int0 {o : Bop} {g : Int → Int → Int} (h1 : ∀ i j S, binD o (.int i) (.int j) S = .ok (.int (g i j)) S) (h2 : ∀ x y S, (∀ i j, ¬ (x = .int i ∧ y = .int j)) → binD o x y S = .bad) : OpS (binD o) fun _ => rI0 fun i j => .int (g i j) := by
  intro K μ H S x y v u Q hs rx ry h
  by_cases hc : ∃ i j, x = .int i ∧ y = .int j
  · obtain ⟨i, j, rfl, rfl⟩ := hc
    rw [h1] at h
    exact ⟨i, j, rx, ry, h.at hs _ rfl⟩
  · rw [h2 x y S (fun i j z => hc ⟨i, j, z⟩)] at h
    exact h.elim
/-- the other cases of an operator of ints -/
theorem bin_else (o : Bop) (ho : (match o with | .add => false | .mul => false | _ => true) = true) (x y : D) (S : Sto) (h : ∀ i j, ¬ (x = .int i ∧ y = .int j)) : binD o x y S = .bad := by
  cases o <;> first | (cases ho; done) | (cases x <;> cases y <;> first | rfl | exact absurd ⟨rfl, rfl⟩ (h _ _))
def rAdd4 (K : Fg) : R2 := fun x y H Q => rI0 (fun i j => .int (i + j)) x y H Q ∨ ((∃ i j, x = .str i ∧ y = .str j ∧ i.length + j.length ≤ sizeLine ∧ Q (.str (i ++ j)) H) ∨ (rCatN K x y H Q ∨ rCat x y H Q))
theorem os_add : OpS (binD .add) rAdd4 := by
  intro K μ H S x y v u Q hs rx ry h
  cases x with
  | int i =>
    cases y with
    | int j => exact .inl ⟨i, j, rx, ry, h.at hs _ rfl⟩
    | _ => exact (show False from h).elim
  | str i =>
    cases y with
    | str j =>
      obtain ⟨z, h⟩ := Po.ask h
      exact .inr (.inl ⟨i, j, rx, ry, z, h.at hs _ rfl⟩)
    | _ => exact (show False from h).elim
  | tup ds =>
    cases y with
    | tup es =>
      obtain ⟨z, h⟩ := Po.ask h
      obtain ⟨q1, vs, rfl, ha, ra, za⟩ := rx
      obtain ⟨q2, us, rfl, hb, rb, zb⟩ := ry
      refine .inr (.inr (.inl ⟨q1, q2, vs, us, rfl, rfl, ha.sq, hb.sq, by rw [← ra.length, ← rb.length]; exact z, fun e => ?_, fun _ e => ?_, fun _ _ p o hp c1 c2 => ?_⟩))
      · refine h.at hs _ ?_
        have : ds = [] := List.eq_nil_of_length_eq_zero (by rw [ra.length, e]; rfl)
        subst this
        exact ⟨q2, us, rfl, hb, rb, zb⟩
      · refine h.at hs _ ?_
        have : es = [] := List.eq_nil_of_length_eq_zero (by rw [rb.length, e]; rfl)
        subst this
        rw [List.append_nil]
        exact ⟨q1, vs, rfl, ha, ra, za⟩
      · exact h μ _ (hs.fresh hp _) (hs.freshOk hp _) _ (rp_tup hs (by rw [List.length_append]; exact z) (ra.append rb) hp c1 c2)
    | _ => exact (show False from h).elim
  | ref i =>
    cases y with
    | ref j =>
      have h : Po K μ H (match S[i]?, S[j]? with
        | some (.lst a), some (.lst b) => ask (a.length + b.length ≤ sizeLine) (Res.ok (D.ref S.length) (S ++ [Ob.lst (a ++ b)]))
        | _, _ => Res.bad) _ := h
      cases ei : S[i]? with
      | none => rw [ei] at h; exact (show False from h).elim
      | some o =>
        cases ej : S[j]? with
        | none => rw [ei, ej] at h; cases o; exact (show False from h).elim
        | some o' =>
          rw [ei, ej] at h
          cases o with
          | lst ds =>
            cases o' with
            | lst es =>
              obtain ⟨z, h⟩ := Po.ask h
              obtain ⟨q1, vs, rfl, _, ha, ra, _⟩ := rp_ref rx hs ei
              obtain ⟨q2, us, rfl, _, hb, rb, _⟩ := rp_ref ry hs ej
              refine .inr (.inr (.inr ⟨q1, q2, vs, us, rfl, rfl, ha, hb, by rw [← ra.length, ← rb.length]; exact z, fun p hp => ?_⟩))
              obtain ⟨e1, s1, r1⟩ := take_new hs (by rw [List.length_append]; exact z) (ra.append rb) hp
              exact h _ _ e1 s1 _ r1
    | _ => exact (show False from h).elim
  | _ => exact (show False from h).elim
theorem sd_add (ha : SdE p a ca) (hb : SdE p b cb) : SdE p (.BinOp a .Add b pos) (.bin .add ca cb) := sd_bin (fun X C g => op_add.or (op_add_str.or (op_catN.or op_cat))) os_add ha hb
theorem sd_sub (ha : SdE p a ca) (hb : SdE p b cb) : SdE p (.BinOp a .Sub b pos) (.bin .sub ca cb) := sd_bin (fun X C g => op_sub) (os_int0 (fun _ _ _ => rfl) (bin_else .sub rfl)) ha hb
theorem opI' {X : Cx} {f : Value → Value → Sem Value} {C : Int → Int → Prop} {g : Int → Int → Int} (h : ∀ i j t u (Q : Value → Shared → Prop) s, C i j → (∀ t', Q (.int (g i j) t') { s with toks := s.toks + 1 }) → wpAny (model X.prog X.w) X.A (f (.int i t) (.int j u)) Q X.xe s) : OpR X f (rI C fun i j => .int (g i j)) := by
  intro pins s σ H x y v u Q I rx ry q
  obtain ⟨i, j, rfl, rfl, hc, q⟩ := q
  obtain ⟨t, rfl⟩ := rx
  obtain ⟨t', rfl⟩ := ry
  exact h i j t t' _ s hc fun t2 => ⟨.int _, H, I.tok _, ⟨_, rfl⟩, q⟩
def rMul2 : R2 := fun x y H Q => rI IntMulOk (fun i j => .int (i * j)) x y H Q ∨ rRep x y H Q
theorem os_mul : OpS (binD .mul) fun _ => rMul2 := by
  intro K μ H S x y v u Q hs rx ry h
  cases x with
  | int i =>
    cases y with
    | int j =>
      obtain ⟨z, h⟩ := Po.ask h
      exact .inl ⟨i, j, rx, ry, z, h.at hs _ rfl⟩
    | _ => exact (show False from h).elim
  | ref i =>
    cases y with
    | int k =>
      have h : Po K μ H (match S[i]? with
        | some (.lst a) => ask (-(2 ^ 63) ≤ k ∧ k < 2 ^ 63 ∧ a.length * k.toNat ≤ sizeLine) (Res.ok (D.ref S.length) (S ++ [Ob.lst (List.replicate k.toNat a).flatten]))
        | none => Res.bad) _ := h
      cases ei : S[i]? with
      | none => rw [ei] at h; exact (show False from h).elim
      | some o =>
        rw [ei] at h
        cases o with
        | lst ds =>
          obtain ⟨⟨k1, k2, z⟩, h⟩ := Po.ask h
          obtain ⟨q1, vs, rfl, _, ha, ra, _⟩ := rp_ref rx hs ei
          refine .inr ⟨q1, k, vs, rfl, ry, ha, k1, k2, by rw [← ra.length]; exact z, fun p hp => ?_⟩
          have rep : ∀ n : Nat, RpA K μ H (List.replicate n ds).flatten (List.replicate n vs).flatten := fun n => by
            induction n with
            | zero => exact .nil
            | succ n ih =>
              rw [List.replicate_succ, List.replicate_succ, List.flatten_cons, List.flatten_cons]
              exact ra.append ih
          have zl : (List.replicate k.toNat ds).flatten.length ≤ sizeLine := by
            rw [List.length_flatten, List.map_replicate, List.sum_replicate_nat, Nat.mul_comm]
            exact z
          obtain ⟨e1, s1, r1⟩ := take_new hs zl (rep k.toNat) hp
          exact h _ _ e1 s1 _ r1
    | _ => exact (show False from h).elim
  | _ => exact (show False from h).elim
theorem sd_mul (ha : SdE p a ca) (hb : SdE p b cb) : SdE p (.BinOp a .Mult b pos) (.bin .mul ca cb) := sd_bin (r := fun _ => rMul2) (fun X C g => (opI' fun _ _ _ _ _ _ hc q => mul_int (q _) hc).or op_rep) os_mul ha hb
theorem sd_fdiv (ha : SdE p a ca) (hb : SdE p b cb) : SdE p (.BinOp a .FloorDiv b pos) (.bin .fdiv ca cb) :=
  sd_bin (r := fun _ => rI FDivOk fun i j => .int (i.fdiv j)) (fun X C g => opI' fun _ _ _ _ _ _ hc q => floordiv_int hc.1 (q _) (.inl hc.2)) (os_int (fun _ _ _ => rfl) (bin_else .fdiv rfl)) ha hb
theorem sd_mod (ha : SdE p a ca) (hb : SdE p b cb) : SdE p (.BinOp a .Mod b pos) (.bin .mod ca cb) :=
  sd_bin (r := fun _ => rI (fun _ j => j ≠ 0) fun i j => .int (i.fmod j)) (fun X C g => op_modN) (os_int (C := fun _ j => j ≠ 0) (fun _ _ _ => rfl) (bin_else .mod rfl)) ha hb
theorem sd_pow (ha : SdE p a ca) (hb : SdE p b cb) : SdE p (.BinOp a .Pow b pos) (.bin .pow ca cb) :=
  sd_bin (r := fun _ => rI CPow fun i j => .int (i ^ j.toNat)) (fun X C g => op_pow) (os_int (C := CPow) (fun _ _ _ => rfl) (bin_else .pow rfl)) ha hb
theorem sd_shl (ha : SdE p a ca) (hb : SdE p b cb) : SdE p (.BinOp a .LShift b pos) (.bin .shl ca cb) :=
  sd_bin (r := fun _ => rI CPow fun i j => .int (i * 2 ^ j.toNat)) (fun X C g => op_shl) (os_int (C := CPow) (fun _ _ _ => rfl) (bin_else .shl rfl)) ha hb
theorem sd_shr (ha : SdE p a ca) (hb : SdE p b cb) : SdE p (.BinOp a .RShift b pos) (.bin .shr ca cb) :=
  sd_bin (r := fun _ => rI (fun _ j => 0 ≤ j) fun i j => .int (i / 2 ^ j.toNat)) (fun X C g => op_shr) (os_int (C := fun _ j => 0 ≤ j) (fun _ _ _ => rfl) (bin_else .shr rfl)) ha hb
theorem sd_band (ha : SdE p a ca) (hb : SdE p b cb) : SdE p (.BinOp a .BitAnd b pos) (.bin .band ca cb) := sd_bin (fun X C g => op_and) (os_int0 (fun _ _ _ => rfl) (bin_else .band rfl)) ha hb
theorem sd_bor (ha : SdE p a ca) (hb : SdE p b cb) : SdE p (.BinOp a .BitOr b pos) (.bin .bor ca cb) := sd_bin (fun X C g => op_or) (os_int0 (fun _ _ _ => rfl) (bin_else .bor rfl)) ha hb
theorem sd_bxor (ha : SdE p a ca) (hb : SdE p b cb) : SdE p (.BinOp a .BitXor b pos) (.bin .bxor ca cb) := sd_bin (fun X C g => op_xor) (os_int0 (fun _ _ _ => rfl) (bin_else .bxor rfl)) ha hb
theorem sd_neg (ha : SdE p a ca) : SdE p (.UnaryOp .USub a pos) (.neg ca) := fun X C g => (pe_un un_neg (ha X C g)).pq fun σ H Q ⟨μ, ρ, S, he, hs, h⟩ => by
  unfold evE at h
  refine ⟨μ, ρ, S, he, hs, h.bind.imp fun x S1 μ1 H1 _ e1 s1 h1 v rv => ?_⟩
  cases x with
  | int i => exact ⟨i, rv, h1.at s1 _ rfl⟩
  | _ => exact (show False from h1).elim

/-! ### comparisons -/
section
variable {K : Fg} {μ : List Addr} {H : Hp} {S : Sto}
theorem refP_dp (hs : StOk K μ H S) : ∀ (n i : Nat) (a : Addr) (q : PyData), μ[i]? = some a → refP S n i = some q → Dp K H (.ref a) q
  | 0, _, _, _, _, h => by cases h
  | n + 1, i, a, q, ea, h => by
    have h : (match S[i]? with
      | some (Ob.lst ds) => (toPsW (refP S n) ds).map PyData.list
      | none => none) = some q := h
    cases ei : S[i]? with
    | none => rw [ei] at h; cases h
    | some o =>
      rw [ei] at h
      cases o with
      | lst ds =>
        obtain ⟨vs, h1, h2, _⟩ := hs.lst ei ea
        cases e : toPsW (refP S n) ds with
        | none => have h : (toPsW (refP S n) ds).map PyData.list = some q := h; rw [e] at h; cases h
        | some qs =>
          have h : (toPsW (refP S n) ds).map PyData.list = some q := h
          rw [e] at h
          cases h
          exact .lst (.of h1) (go hs n ds vs qs h2 e)
where
  go (hs : StOk K μ H S) (n : Nat) : ∀ (ds : List D) (vs : List V) (qs : List PyData), RpA K μ H ds vs → toPsW (refP S n) ds = some qs → DpAll K H vs qs
    | [], _, _, r, h => by
      cases h
      rw [show _ = ([] : List V) from r]
      exact .nil
    | d :: ds, _, qs, ⟨v, r, h1, h2, h3⟩, h => by
      have h : (match toPW (refP S n) d, toPsW (refP S n) ds with
        | some p, some ps => some (p :: ps)
        | _, _ => none) = some qs := h
      cases e1 : toPW (refP S n) d with
      | none => rw [e1] at h; cases h
      | some q1 =>
        cases e2 : toPsW (refP S n) ds with
        | none => rw [e1, e2] at h; cases h
        | some q2 =>
          rw [e1, e2] at h
          cases h
          rw [h1]
          exact .cons (one hs n d v q1 h2 e1) (go hs n ds r q2 h3 e2)
  one (hs : StOk K μ H S) (n : Nat) : ∀ (d : D) (v : V) (q : PyData), Rp K μ H d v → toPW (refP S n) d = some q → Dp K H v q
    | .non, _, _, r, h => by cases h; rw [show _ = V.non from r]; exact .non
    | .bl b, _, _, r, h => by cases h; rw [show _ = V.bl b from r]; exact .bl b
    | .int i, _, _, r, h => by cases h; rw [show _ = V.int i from r]; exact .int i
    | .str x, _, _, r, h => by cases h; rw [show _ = V.str x from r]; exact .str x
    | .tup ds, _, q, ⟨a, vs, e, h1, h2, _⟩, h => by
      have h : (toPsW (refP S n) ds).map PyData.tuple = some q := h
      cases e1 : toPsW (refP S n) ds with
      | none => rw [e1] at h; cases h
      | some qs =>
        rw [e1] at h
        cases h
        rw [e]
        exact .tup h1.sq (go hs n ds vs qs h2 e1)
    | .fix ds, _, q, ⟨a, vs, e, h1, h2, _⟩, h => by
      have h : (toPsW (refP S n) ds).map PyData.list = some q := h
      cases e1 : toPsW (refP S n) ds with
      | none => rw [e1] at h; cases h
      | some qs =>
        rw [e1] at h
        cases h
        rw [e]
        exact .lst h1.sq (go hs n ds vs qs h2 e1)
    | .ref i, _, q, ⟨a, e, ea⟩, h => by
      rw [e]
      exact refP_dp hs n i a q ea h
theorem toP_dp (hs : StOk K μ H S) {d : D} {v : V} {q : PyData} (r : Rp K μ H d v) (h : toP S d = some q) : Dp K H v q := refP_dp.one hs 8 d v q r h
theorem toPs_dp (hs : StOk K μ H S) {ds : List D} {vs : List V} {qs : List PyData} (r : RpA K μ H ds vs) (h : toPs S ds = some qs) : DpAll K H vs qs := refP_dp.go hs 8 ds vs qs r h
end
section
variable {K : Fg} {μ : List Addr} {H : Hp} {S : Sto} {x y : D} {v u : V}
theorem scal_rp (rx : Rp K μ H x v) (ry : Rp K μ H y u) (h : scalD x y = true) : scal v u = true ∧ decide (v = u) = eqSc x y := by
  cases x <;> cases y <;> first
    | (cases h; done)
    | (cases rx; cases ry; refine ⟨rfl, ?_⟩; simp [eqSc])
/-- == and != of data -/
def rEq2 (K : Fg) (neg : Bool) : R2 := fun x y H Q => (scal x y = true ∧ Q (.bl (if neg then !decide (x = y) else decide (x = y))) H) ∨ ∃ d e, Dp K H x d ∧ Dp K H y e ∧ SeqAt.shaped d = true ∧ SeqAt.shaped e = true ∧ Q (.bl (if neg then !PyData.eqv d e else PyData.eqv d e)) H
theorem dEq_ok (hs : StOk K μ H S) {Q : VK} {b : Bool} (neg : Bool) (rx : Rp K μ H x v) (ry : Rp K μ H y u) (h : dEq S x y = some b) (q : Q (.bl (if neg then !b else b)) H) : rEq2 K neg v u H Q := by
  unfold dEq at h
  split at h
  · rename_i hc
    obtain ⟨h1, h2⟩ := scal_rp rx ry hc
    cases h
    exact .inl ⟨h1, by rw [h2]; exact q⟩
  · split at h
    · rename_i p1 p2 e1 e2
      split at h
      · rename_i hsh
        cases h
        rw [Bool.and_eq_true] at hsh
        exact .inr ⟨p1, p2, toP_dp hs rx e1, toP_dp hs ry e2, hsh.1, hsh.2, q⟩
      · cases h
    · cases h
end
theorem os_cmpI {o : Cop} {g : Int → Int → Bool} (h1 : ∀ i j S, cmpD o (.int i) (.int j) S = .ok (.bl (g i j)) S) (h2 : ∀ x y S, (∀ i j, ¬ (x = .int i ∧ y = .int j)) → cmpD o x y S = .bad) : OpS (cmpD o) fun _ => rI0 fun i j => .bl (g i j) := by
  intro K μ H S x y v u Q hs rx ry h
  by_cases hc : ∃ i j, x = .int i ∧ y = .int j
  · obtain ⟨i, j, rfl, rfl⟩ := hc
    rw [h1] at h
    exact ⟨i, j, rx, ry, h.at hs _ rfl⟩
  · rw [h2 x y S (fun i j z => hc ⟨i, j, z⟩)] at h
    exact h.elim
theorem cmp_else (o : Cop) (ho : (match o with | .eq => false | .ne => false | _ => true) = true) (x y : D) (S : Sto) (h : ∀ i j, ¬ (x = .int i ∧ y = .int j)) : cmpD o x y S = .bad := by
  cases o <;> first | (cases ho; done) | (cases x <;> cases y <;> first | rfl | exact absurd ⟨rfl, rfl⟩ (h _ _))
/-- is None -/
theorem isN_rp {K : Fg} {μ : List Addr} {H : Hp} {x : D} {v : V} (r : Rp K μ H x v) : decide (v = V.non) = isNon x := by
  cases x with
  | tup ds => obtain ⟨a, vs, rfl, _⟩ := r; rfl
  | fix ds => obtain ⟨a, vs, rfl, _⟩ := r; rfl
  | ref i => obtain ⟨a, rfl, _⟩ := r; rfl
  | _ => cases r; rfl
end
end PQ

/-! Tests, subscripts, calls, built-ins. -/
namespace PQ
open PySem PySem.Spec PyProof.Rows L2

/-! ### conditions on the text -/
def notStar : Expr → Bool
  | .Starred .. => false
  | _ => true
theorem star_cons {e : Expr} (h : notStar e = true) (es : List Expr) (env : Env) : starEach (e :: es) env = (false, eval e env) :: starEach es env := by
  cases e <;> first | rfl | (cases h; done)
theorem star_any : ∀ {es : List Expr} (pos : Pos) (env : Env), es.all notStar = true → (backTo pos (starEach es env)).any (·.1) = false
  | [], _, _, _ => rfl
  | e :: es, pos, env, h => by
    rw [List.all_cons, Bool.and_eq_true] at h
    rw [star_cons h.1]
    show (false || (backTo pos (starEach es env)).any (·.1)) = false
    rw [star_any pos env h.2]
    rfl
def plainTest : Expr → Bool
  | .UnaryOp .Not _ _ => false
  | .BoolOp .. => false
  | .IfExp .. => false
  | .Compare .. => false
  | _ => true
theorem plain_true {e : Expr} (h : plainTest e = true) (env : Env) (w : Sem Value) : isTrue e env w = (do let v ← w; standAt e.pos; holding [v] (truthy v)) := by
  cases e with
  | UnaryOp o a p => cases o <;> first | rfl | (cases h; done)
  | _ => first | rfl | (cases h; done)
def notSlice : Expr → Bool
  | .Slice .. => false
  | _ => true
theorem plain_ix {e : Expr} (h : notSlice e = true) : PlainIx e := by
  intro o i
  cases e <;> first | rfl | (cases h; done)
theorem aug_store {i : Expr} (h : notSlice i = true) (ov iv new : Value) : augStore i ov iv new = (do holding [new, ov, iv] (setItem ov iv new); release [new, ov, iv] []; pure .next) := by
  cases i <;> first | rfl | (cases h; done)
theorem sub_store {o i : Expr} {pos : Pos} (h : notSlice i = true) (env : Env) (v : Value) : assign (.Subscript o i pos) env v = (do
      let ov ← holding [v] (eval o env)
      let iv ← holding [v, ov] (eval i env)
      standAt pos
      holding [v, ov, iv] (setItem ov iv v)
      release [v, ov, iv] []) := by
  cases i <;> first | rfl | (cases h; done)
def notComp : Expr → Bool
  | .ListComp .. => false
  | .SetComp .. => false
  | .DictComp .. => false
  | _ => true
theorem no_swap {e : Expr} (h : notComp e = true) (t : Option Expr) (l : Nat) (env : Env) : swapsWith e t l env = pure false := by
  cases e <;> first | rfl | (cases h; done)
def notSet : Expr → Bool
  | .Set .. => false
  | _ => true
theorem no_fold {e : Expr} (h : notSet e = true) (env : Env) (x : Value) : foldedSetIterable e env x = pure x := by
  cases e <;> first | rfl | (cases h; done)
def notCall : Expr → Bool
  | .Call .. => false
  | _ => true
theorem plain_base {e : Expr} (h : notCall e = true) (n : Str) (env : Env) (w : Sem Value) : attributeBase e n env w = w := by
  cases e <;> first | rfl | (cases h; done)

section
variable {p : Pl} {a b c e : Expr} {ca cb cc : CE} {pos : Pos} {ta tb : CT}
/-! ### truth -/
theorem tru_rp {K : Fg} {μ : List Addr} {H : Hp} {S : Sto} (hs : StOk K μ H S) {x : D} {v : V} {k : Bool} (r : Rp K μ H x v) (h : tru S x = some k) : TruV K v H k := by
  have emp : ∀ {ds : List D} {vs : List V}, RpA K μ H ds vs → (!ds.isEmpty) = !vs.isEmpty := fun {ds vs} r => by
    have := r.length
    cases ds <;> cases vs <;> first | rfl | (simp at this)
  cases x with
  | non => cases r; cases h; rfl
  | bl b => cases r; cases h; rfl
  | int i => cases r; cases h; rfl
  | str x =>
    cases r
    have h : (if x.length ≤ sizeLine then some (x.length != 0) else none) = some k := h
    split at h
    · cases h
      refine ⟨by assumption, ?_⟩
      rw [Bool.eq_iff_iff]
      simp only [bne_iff_ne, ne_eq]
      omega
    · cases h
  | tup ds =>
    obtain ⟨a, vs, rfl, h1, h2, _⟩ := r
    cases h
    exact .inr (.inl ⟨vs, h1.sq, emp h2⟩)
  | fix ds =>
    obtain ⟨a, vs, rfl, h1, h2, _⟩ := r
    cases h
    exact .inl ⟨vs, h1.sq, emp h2⟩
  | ref i =>
    have h : (match S[i]? with
      | some (Ob.lst ds) => some (!ds.isEmpty)
      | none => none) = some k := h
    cases ei : S[i]? with
    | none => rw [ei] at h; cases h
    | some o =>
      rw [ei] at h
      cases o with
      | lst ds =>
        obtain ⟨a, vs, rfl, _, h1, h2, _⟩ := rp_ref r hs ei
        cases h
        exact .inl ⟨vs, .of h1, emp h2⟩
theorem sd_and {rest : List Expr} (ha : SdE p a ca) (hb : SdE p (.BoolOp .And (b :: rest) pos) cb) : SdE p (.BoolOp .And (a :: b :: rest) pos) (.and ca cb) := fun X C g => (pe_andT (ha X C g) (hb X C g)).pq fun σ H Q ⟨μ, ρ, S, he, hs, h⟩ => by
  unfold evE at h
  refine ⟨μ, ρ, S, he, hs, h.bind.imp fun x S1 μ1 H1 _ e1 s1 h1 v rv => ?_⟩
  obtain ⟨k, ek, h1⟩ := h1.may
  refine ⟨k, tru_rp s1 rv ek, ?_⟩
  cases k with
  | true => rw [if_pos rfl] at h1 ⊢; exact ⟨μ1, ρ, S1, he.mono e1, s1, h1⟩
  | false => rw [if_neg Bool.false_ne_true] at h1 ⊢; exact h1.at s1 v rv
theorem sd_or {rest : List Expr} (ha : SdE p a ca) (hb : SdE p (.BoolOp .Or (b :: rest) pos) cb) : SdE p (.BoolOp .Or (a :: b :: rest) pos) (.or ca cb) := fun X C g => (pe_orT (ha X C g) (hb X C g)).pq fun σ H Q ⟨μ, ρ, S, he, hs, h⟩ => by
  unfold evE at h
  refine ⟨μ, ρ, S, he, hs, h.bind.imp fun x S1 μ1 H1 _ e1 s1 h1 v rv => ?_⟩
  obtain ⟨k, ek, h1⟩ := h1.may
  refine ⟨k, tru_rp s1 rv ek, ?_⟩
  cases k with
  | true => rw [if_pos rfl] at h1 ⊢; exact h1.at s1 v rv
  | false => rw [if_neg Bool.false_ne_true] at h1 ⊢; exact ⟨μ1, ρ, S1, he.mono e1, s1, h1⟩
theorem sd_one {op} (ha : SdE p a ca) : SdE p (.BoolOp op [a] pos) ca := fun X C g => pe_one (ha X C g)
theorem sd_not (ha : SdE p a ca) : SdE p (.UnaryOp .Not a pos) (.not ca) := fun X C g => (pe_notT (ha X C g)).pq fun σ H Q ⟨μ, ρ, S, he, hs, h⟩ => by
  unfold evE at h
  refine ⟨μ, ρ, S, he, hs, h.bind.imp fun x S1 μ1 H1 _ e1 s1 h1 v rv => ?_⟩
  obtain ⟨k, ek, h1⟩ := h1.may
  exact ⟨k, tru_rp s1 rv ek, h1.at s1 _ rfl⟩
theorem sd_ife (ht : SdT p c ta) (ha : SdE p a ca) (hb : SdE p b cb) : SdE p (.IfExp c a b pos) (.ife ta ca cb) := fun X C g => (pe_ifExp (ht X C g) (ha X C g) (hb X C g)).pq fun σ H Q ⟨μ, ρ, S, he, hs, h⟩ => by
  unfold evE at h
  refine ⟨μ, ρ, S, he, hs, h.bind.imp fun k S1 μ1 H1 _ e1 s1 h1 => ?_⟩
  cases k with
  | true => rw [if_pos rfl] at h1 ⊢; exact ⟨μ1, ρ, S1, he.mono e1, s1, h1⟩
  | false => rw [if_neg Bool.false_ne_true] at h1 ⊢; exact ⟨μ1, ρ, S1, he.mono e1, s1, h1⟩

/-! ### tests -/
theorem st_plain (h : plainTest e = true) (ha : SdE p e ca) : SdT p e (.v ca) := fun X C g => (pt_truth (ha X C g) (fun w => plain_true h _ w)).pq fun σ H Q ⟨μ, ρ, S, he, hs, h⟩ => by
  unfold evT at h
  refine ⟨μ, ρ, S, he, hs, h.bind.imp fun x S1 μ1 H1 _ e1 s1 h1 v rv => ?_⟩
  obtain ⟨k, ek, h1⟩ := h1.may
  exact ⟨k, tru_rp s1 rv ek, h1.at s1⟩
/-- a comparison: its value, its test -/
def SdC (p : Pl) (e : Expr) (c : CE) : Prop := ∀ X C, Good X p C → ∃ t, PE X e t ∧ PT X e (tTest t) ∧ ∀ σ H Q, tE X.K (evE C c) σ H Q → t σ H Q
def isB : D → Bool
  | .bl _ => true
  | _ => false
theorem SdC.val (h : SdC p e ca) : SdE p e ca := fun X C g => by
  obtain ⟨t, h1, _, h3⟩ := h X C g
  exact h1.pq h3
theorem SdC.test (h : SdC p e ca) (hb : ∀ C ρ S d S', evE C ca ρ S = .ok d S' → isB d = true) : SdT p e (.v ca) := fun X C g => by
  obtain ⟨t, _, h2, h3⟩ := h X C g
  refine h2.pq fun σ H Q ⟨μ, ρ, S, he, hs, h⟩ => h3 σ H _ ?_
  unfold evT at h
  refine ⟨μ, ρ, S, he, hs, h.bind.imp fun x S1 μ1 H1 ex e1 s1 h1 v rv => ?_⟩
  have := hb _ _ _ _ _ ex
  cases x with
  | bl b =>
    cases rv
    obtain ⟨k, ek, h1⟩ := h1.may
    cases ek
    exact ⟨b, rfl, h1.at s1⟩
  | _ => cases this
theorem sw_and1 (ha : SdT p a ta) : SdW p (.BoolOp .And [a] pos) ta := fun X C g => pw_and1 (ha X C g)
theorem sw_or1 (ha : SdT p a ta) : SdW p (.BoolOp .Or [a] pos) ta := fun X C g => pw_or1 (ha X C g)
theorem sw_and {rest : List Expr} (ha : SdT p a ta) (hb : SdW p (.BoolOp .And (b :: rest) pos) tb) : SdW p (.BoolOp .And (a :: b :: rest) pos) (.and ta tb) := fun X C g => (pw_and (ha X C g) (hb X C g)).pq fun σ H Q ⟨μ, ρ, S, he, hs, h⟩ => by
  unfold evT at h
  refine ⟨μ, ρ, S, he, hs, h.bind.imp fun k S1 μ1 H1 _ e1 s1 h1 => ?_⟩
  cases k with
  | true => rw [if_pos rfl] at h1 ⊢; exact ⟨μ1, ρ, S1, he.mono e1, s1, h1⟩
  | false => rw [if_neg Bool.false_ne_true] at h1 ⊢; exact h1.at s1
theorem sw_or {rest : List Expr} (ha : SdT p a ta) (hb : SdW p (.BoolOp .Or (b :: rest) pos) tb) : SdW p (.BoolOp .Or (a :: b :: rest) pos) (.or ta tb) := fun X C g => (pw_or (ha X C g) (hb X C g)).pq fun σ H Q ⟨μ, ρ, S, he, hs, h⟩ => by
  unfold evT at h
  refine ⟨μ, ρ, S, he, hs, h.bind.imp fun k S1 μ1 H1 _ e1 s1 h1 => ?_⟩
  cases k with
  | true => rw [if_pos rfl] at h1 ⊢; exact h1.at s1
  | false => rw [if_neg Bool.false_ne_true] at h1 ⊢; exact ⟨μ1, ρ, S1, he.mono e1, s1, h1⟩
theorem st_w (h : SdW p e ta) : SdT p e ta := fun X C g => (h X C g).pt
theorem st_not (ha : SdT p a ta) : SdT p (.UnaryOp .Not a pos) (.not ta) := fun X C g => (pt_not (ha X C g)).pq fun σ H Q ⟨μ, ρ, S, he, hs, h⟩ => by
  unfold evT at h
  exact ⟨μ, ρ, S, he, hs, h.bind.imp fun k S1 μ1 H1 _ e1 s1 h1 => h1.at s1⟩

/-! ### comparisons by their sign -/
def copOp : Cop → CmpOp
  | .eq => .Eq | .ne => .NotEq | .lt => .Lt | .le => .LtE | .gt => .Gt | .ge => .GtE
def copR : Cop → Fg → R2
  | .eq, K => rEq2 K false
  | .ne, K => rEq2 K true
  | .lt, _ => rI0 fun i j => .bl (decide (i < j))
  | .le, _ => rI0 fun i j => .bl (decide (i ≤ j))
  | .gt, _ => rI0 fun i j => .bl (decide (j < i))
  | .ge, _ => rI0 fun i j => .bl (decide (j ≤ i))
theorem cop_op (o : Cop) (X : Cx) (C : Orc) (g : Good X p C) : OpR X (compareOp (copOp o)) (copR o X.K) := by
  have := g.un
  cases o with
  | eq => exact op_eq.or (op_eqD (by omega))
  | ne => exact op_ne.or (op_neD (by omega))
  | lt => exact op_lt
  | le => exact op_le
  | gt => exact op_gt
  | ge => exact op_ge
theorem cop_os (o : Cop) : OpS (cmpD o) (copR o) := by
  cases o with
  | eq =>
      intro K μ H S x y v u Q hs rx ry h
      obtain ⟨b, e, h⟩ := Po.may (show Po K μ H (may (dEq S x y) fun b => Res.ok (D.bl b) S) _ from h)
      exact dEq_ok hs false rx ry e (h.at hs _ rfl)
  | ne =>
      intro K μ H S x y v u Q hs rx ry h
      obtain ⟨b, e, h⟩ := Po.may (show Po K μ H (may (dEq S x y) fun b => Res.ok (D.bl (!b)) S) _ from h)
      exact dEq_ok hs true rx ry e (h.at hs _ rfl)
  | lt => exact os_cmpI (fun _ _ _ => rfl) (cmp_else .lt rfl)
  | le => exact os_cmpI (fun _ _ _ => rfl) (cmp_else .le rfl)
  | gt => exact os_cmpI (fun _ _ _ => rfl) (cmp_else .gt rfl)
  | ge => exact os_cmpI (fun _ _ _ => rfl) (cmp_else .ge rfl)
theorem cmp_bl {o : Cop} {x y : D} {S : Sto} {d : D} {S' : Sto} (h : cmpD o x y S = .ok d S') : ∃ k, d = .bl k := by
  cases o with
  | eq =>
    have h : may (dEq S x y) (fun b => Res.ok (D.bl b) S) = .ok d S' := h
    cases e : dEq S x y with
    | none => rw [e] at h; cases h
    | some k => rw [e] at h; cases h; exact ⟨_, rfl⟩
  | ne =>
    have h : may (dEq S x y) (fun b => Res.ok (D.bl (!b)) S) = .ok d S' := h
    cases e : dEq S x y with
    | none => rw [e] at h; cases h
    | some k => rw [e] at h; cases h; exact ⟨_, rfl⟩
  | _ => cases x <;> first | (cases h; done) | (cases y <;> first | (cases h; done) | (cases h; exact ⟨_, rfl⟩))
theorem bind_ok {α β : Type} {r : Res α} {f : α → Sto → Res β} {b : β} {S' : Sto} (h : r.bind f = .ok b S') : ∃ a S1, r = .ok a S1 ∧ f a S1 = .ok b S' := by
  cases r with
  | ok a S1 => exact ⟨a, S1, rfl, h⟩
  | exc c fs S1 => cases h
  | bad => cases h
theorem may_ok {α β : Type} {o : Option α} {f : α → Res β} {b : β} {S' : Sto} (h : may o f = .ok b S') : ∃ a, o = some a ∧ f a = .ok b S' := by
  cases o with
  | none => cases h
  | some a => exact ⟨a, rfl, h⟩
theorem sc_cmp (o : Cop) (ha : SdE p a ca) (hb : SdE p b cb) : SdC p (.Compare a [copOp o] [b] pos) (.cmp o ca cb) := fun X C g => by
  have h1 : copOp o ≠ .In := by cases o <;> (intro z; cases z)
  have h2 : copOp o ≠ .NotIn := by cases o <;> (intro z; cases z)
  refine ⟨_, pe_cmpR (cop_op o X C g) (ha X C g) (hb X C g) (nomark b h1 h2), pt_cmpR (cop_op o X C g) (ha X C g) (hb X C g) (nomark b h1 h2), fun σ H Q h => tOp_imp (cop_os o) ?_⟩
  obtain ⟨μ, ρ, S, he, hs, h⟩ := h
  unfold evE at h
  exact ⟨μ, ρ, S, he, hs, h⟩
theorem b_cmp {o : Cop} : ∀ C ρ S d S', evE C (.cmp o ca cb) ρ S = .ok d S' → isB d = true := fun C ρ S d S' h => by
  unfold evE at h
  obtain ⟨x, S1, _, h⟩ := bind_ok h
  obtain ⟨y, S2, _, h⟩ := bind_ok h
  obtain ⟨k, rfl⟩ := cmp_bl h
  rfl
theorem sc_chn (o q : Cop) (hm : lastMarks [copOp o, copOp q] [b, c] = false) (ha : SdE p a ca) (hb : SdE p b cb) (hc : SdE p c cc) : SdC p (.Compare a [copOp o, copOp q] [b, c] pos) (.chn o q ca cb cc) := fun X C g => by
  refine ⟨_, pe_chain (cop_op o X C g) (cop_op q X C g) (ha X C g) (hb X C g) (hc X C g) hm, pt_chain (cop_op o X C g) (cop_op q X C g) (ha X C g) (hb X C g) (hc X C g) hm, fun σ H Q ⟨μ, ρ, S, he, hs, h⟩ => ?_⟩
  unfold evE at h
  refine ⟨μ, ρ, S, he, hs, h.bind.imp fun x S1 μ1 H1 _ e1 s1 h1 v rv => ?_⟩
  refine ⟨μ1, ρ, S1, he.mono e1, s1, h1.bind.imp fun y S2 μ2 H2 _ e2 s2 h2 u ru => ?_⟩
  refine cop_os o X.K μ2 H2 S2 x y v u _ s2 (rv.mono e2) ru (h2.bind.imp fun z S3 μ3 H3 ez e3 s3 h3 w rw_ => ?_)
  obtain ⟨k, rfl⟩ := cmp_bl ez
  refine ⟨k, rw_, ?_⟩
  cases k with
  | true =>
    rw [if_pos rfl]
    refine ⟨μ3, ρ, S3, he.mono (e1.trans (e2.trans e3)), s3, h3.bind.imp fun w' S4 μ4 H4 _ e4 s4 h4 t rt => ?_⟩
    exact cop_os q X.K μ4 H4 S4 y w' u t Q s4 ((ru.mono e3).mono e4) rt h4
  | false =>
    rw [if_neg Bool.false_ne_true]
    exact h3.at s3 _ rfl
theorem b_chn {o q : Cop} : ∀ C ρ S d S', evE C (.chn o q ca cb cc) ρ S = .ok d S' → isB d = true := fun C ρ S d S' h => by
  unfold evE at h
  obtain ⟨x, S1, _, h⟩ := bind_ok h
  obtain ⟨y, S2, _, h⟩ := bind_ok h
  obtain ⟨z, S3, ez, h⟩ := bind_ok h
  obtain ⟨k, rfl⟩ := cmp_bl ez
  cases k with
  | true =>
    obtain ⟨w, S4, _, h⟩ := bind_ok h
    obtain ⟨k, rfl⟩ := cmp_bl h
    rfl
  | false => cases h; rfl
theorem sc_isN {j pos'} (ha : SdE p a ca) : SdC p (.Compare a [.Is] [.Constant .none j pos'] pos) (.isN ca) := fun X C g => by
  refine ⟨_, pe_cmp (pc_isN (ha X C g)), pt_cmp (pc_isN (ha X C g)), fun σ H Q ⟨μ, ρ, S, he, hs, h⟩ => ?_⟩
  unfold evE at h
  refine ⟨μ, ρ, S, he, hs, h.bind.imp fun x S1 μ1 H1 _ e1 s1 h1 v rv => ?_⟩
  show Q (V.bl (decide (v = V.non))) H1
  rw [isN_rp rv]
  exact h1.at s1 _ rfl
theorem sc_notN {j pos'} (ha : SdE p a ca) : SdC p (.Compare a [.IsNot] [.Constant .none j pos'] pos) (.notN ca) := fun X C g => by
  refine ⟨_, pe_cmp (pc_notN (ha X C g)), pt_cmp (pc_notN (ha X C g)), fun σ H Q ⟨μ, ρ, S, he, hs, h⟩ => ?_⟩
  unfold evE at h
  refine ⟨μ, ρ, S, he, hs, h.bind.imp fun x S1 μ1 H1 _ e1 s1 h1 v rv => ?_⟩
  show Q (V.bl (!decide (v = V.non))) H1
  rw [isN_rp rv]
  exact h1.at s1 _ rfl
theorem b_isN : ∀ C ρ S d S', evE C (.isN ca) ρ S = .ok d S' → isB d = true := fun C ρ S d S' h => by
  unfold evE at h
  obtain ⟨x, S1, _, h⟩ := bind_ok h
  cases h; rfl
theorem b_notN : ∀ C ρ S d S', evE C (.notN ca) ρ S = .ok d S' → isB d = true := fun C ρ S d S' h => by
  unfold evE at h
  obtain ⟨x, S1, _, h⟩ := bind_ok h
  cases h; rfl
end
end PQ

/-! Subscripts, calls, built-ins. -/
namespace PQ
open PySem PySem.Spec PyProof.Rows L2
section
variable {p : Pl} {a b c e : Expr} {ca cb cc : CE} {cr : CR} {pos : Pos}
section
variable {K : Fg} {μ : List Addr} {H : Hp} {S : Sto} {x y d : D} {v u : V} {Q : VK} {ds : List D} {vs : List V} {r : RV}
theorem ls_rv (hs : StOk K μ H S) (rv : RvR K μ H r v) (h : lsOf S r = some ds) : ∃ a vs, v = .ref a ∧ SqL K H a vs ∧ RpA K μ H ds vs ∧ ds.length ≤ sizeLine := by
  cases r with
  | own es =>
    cases h
    obtain ⟨a, vs, h1, h2, _, h4, h5⟩ := rv
    exact ⟨a, vs, h1, .of h2, h4, h5⟩
  | val d =>
    cases d with
    | fix es =>
      cases h
      obtain ⟨a, vs, h1, h2, h3, h4⟩ := rv
      exact ⟨a, vs, h1, h2.sq, h3, h4⟩
    | ref i =>
      have h : (match S[i]? with
        | some (Ob.lst ds) => some ds
        | none => none) = some ds := h
      cases ei : S[i]? with
      | none => rw [ei] at h; cases h
      | some o =>
        rw [ei] at h
        cases o with
        | lst es =>
          cases h
          obtain ⟨a, vs, h1, _, h2, h3, h4⟩ := rp_ref rv hs ei
          exact ⟨a, vs, h1, .of h2, h3, h4⟩
    | _ => cases h
theorem tr_rv (hs : StOk K μ H S) (rv : RvR K μ H r v) (h : trOf S r = some ds) : ∃ a vs, v = .ref a ∧ H a = some (.lst vs) ∧ RpA K μ H ds vs ∧ ds.length ≤ sizeLine := by
  cases r with
  | own es =>
    cases h
    obtain ⟨a, vs, h1, h2, _, h4, h5⟩ := rv
    exact ⟨a, vs, h1, h2, h4, h5⟩
  | val d =>
    cases d with
    | ref i =>
      have h : (match S[i]? with
        | some (Ob.lst ds) => some ds
        | none => none) = some ds := h
      cases ei : S[i]? with
      | none => rw [ei] at h; cases h
      | some o =>
        rw [ei] at h
        cases o with
        | lst es =>
          cases h
          obtain ⟨a, vs, h1, _, h2, h3, h4⟩ := rp_ref rv hs ei
          exact ⟨a, vs, h1, h2, h3, h4⟩
    | _ => cases h
theorem sq_rv (hs : StOk K μ H S) (rv : RvR K μ H r v) (h : sqOf S r = some ds) : ∃ a vs, v = .ref a ∧ (SqL K H a vs ∨ (SqN K H a vs ∧ r = .val (.tup ds))) ∧ RpA K μ H ds vs ∧ ds.length ≤ sizeLine := by
  by_cases ht : ∃ es, r = .val (.tup es)
  · obtain ⟨es, rfl⟩ := ht
    cases h
    obtain ⟨a, vs, h1, h2, h3, h4⟩ := rv
    exact ⟨a, vs, h1, .inr ⟨h2, rfl⟩, h3, h4⟩
  · have h : lsOf S r = some ds := by
      cases r with
      | own es => exact h
      | val d => cases d <;> first | exact h | exact absurd ⟨_, rfl⟩ ht
    obtain ⟨a, vs, h1, h2, h3, h4⟩ := ls_rv hs rv h
    exact ⟨a, vs, h1, .inl h2, h3, h4⟩
theorem sq_or {a : Addr} {X : Prop} (h : SqL K H a vs ∨ (SqN K H a vs ∧ X)) : SqL K H a vs ∨ SqT K H a vs := h.elim .inl fun z => .inr z.1.sq
theorem rp_ints : ∀ {ds : List D} {vs : List V} {ns : List Int}, RpA K μ H ds vs → intsOf ds = some ns → vs = ns.map V.int
  | [], _, _, r, h => by cases h; exact r
  | d :: ds, _, ns, ⟨v, r, e, h1, h2⟩, h => by
    cases d with
    | int i =>
      have h : (intsOf ds).map (i :: ·) = some ns := h
      cases e1 : intsOf ds with
      | none => rw [e1] at h; cases h
      | some ms =>
        rw [e1] at h
        cases h
        rw [e, show v = V.int i from h1, rp_ints h2 e1]
        rfl
    | _ => cases h
theorem rp_bools : ∀ {ds : List D} {vs : List V} {ns : List Bool}, RpA K μ H ds vs → boolsOf ds = some ns → vs = ns.map V.bl
  | [], _, _, r, h => by cases h; exact r
  | d :: ds, _, ns, ⟨v, r, e, h1, h2⟩, h => by
    cases d with
    | bl i =>
      have h : (boolsOf ds).map (i :: ·) = some ns := h
      cases e1 : boolsOf ds with
      | none => rw [e1] at h; cases h
      | some ms =>
        rw [e1] at h
        cases h
        rw [e, show v = V.bl i from h1, rp_bools h2 e1]
        rfl
    | _ => cases h
theorem rp_at (r : RpA K μ H ds vs) {i : Int} (h : atI ds i = some d) : ∃ v, atI vs i = some v ∧ Rp K μ H d v := by
  unfold atI at h ⊢
  rw [← r.length]
  cases e : ixN ds.length i with
  | none => rw [e] at h; cases h
  | some j =>
    rw [e] at h
    exact r.get h
theorem cutD_ok (r : RpA K μ H ds vs) (lo hi : Option Int) : RpA K μ H (cutD ds lo hi) (cutV vs lo hi) := by
  unfold cutD cutV
  rw [r.length]
  exact (r.drop _).take _
theorem cutD_len (ds : List D) (lo hi : Option Int) : (cutD ds lo hi).length ≤ ds.length := by
  unfold cutD
  rw [List.length_take, List.length_drop]
  omega
end

/-! ### a[i], a[lo:hi] -/
theorem os_idx : OpS idxD rIx := by
  intro K μ H S x y v u Q hs rx ry h
  cases x with
  | tup ds =>
    cases y with
    | int i =>
      obtain ⟨d, e, h⟩ := Po.may (show Po K μ H (may (atI ds i) fun d => Res.ok d S) _ from h)
      obtain ⟨a, vs, rfl, h1, h2, _⟩ := rx
      obtain ⟨w, e1, r1⟩ := rp_at h2 e
      exact .inr (.inl ⟨a, vs, i, w, rfl, ry, h1.sq, e1, h.at hs w r1⟩)
    | _ => exact (show False from h).elim
  | fix ds =>
    cases y with
    | int i =>
      obtain ⟨d, e, h⟩ := Po.may (show Po K μ H (may (atI ds i) fun d => Res.ok d S) _ from h)
      obtain ⟨a, vs, rfl, h1, h2, _⟩ := rx
      obtain ⟨w, e1, r1⟩ := rp_at h2 e
      exact .inl ⟨a, vs, i, w, rfl, ry, h1.sq, e1, h.at hs w r1⟩
    | _ => exact (show False from h).elim
  | ref n =>
    cases y with
    | int i =>
      have h : Po K μ H (match S[n]? with
        | some (Ob.lst ds) => may (atI ds i) fun d => Res.ok d S
        | none => Res.bad) _ := h
      cases ei : S[n]? with
      | none => rw [ei] at h; exact (show False from h).elim
      | some o =>
        rw [ei] at h
        cases o with
        | lst ds =>
          obtain ⟨d, e, h⟩ := Po.may h
          obtain ⟨a, vs, rfl, _, h1, h2, _⟩ := rp_ref rx hs ei
          obtain ⟨w, e1, r1⟩ := rp_at h2 e
          exact .inl ⟨a, vs, i, w, rfl, ry, .of h1, e1, h.at hs w r1⟩
    | _ => exact (show False from h).elim
  | str z =>
    cases y with
    | int i =>
      obtain ⟨hz, h⟩ := Po.ite (show Po K μ H (if z.length ≤ sizeLine then may (atI z.cps.toList i) fun c => Res.ok (D.str ⟨#[c]⟩) S else Res.bad) _ from h)
      obtain ⟨k, e, h⟩ := Po.may h
      exact .inr (.inr ⟨z, i, k, rx, ry, hz, e, h.at hs _ rfl⟩)
    | _ => exact (show False from h).elim
  | _ => exact (show False from h).elim
theorem sd_idx (hn : notSlice b = true) (ha : SdE p a ca) (hb : SdE p b cb) : SdE p (.Subscript a b pos) (.idx ca cb) := fun X C g =>
  (pe_ix ix_seq (ha X C g) (hb X C g) (plain_ix hn)).pq fun σ H Q h => tOp_imp os_idx (by
    obtain ⟨μ, ρ, S, he, hs, h⟩ := h
    unfold evE at h
    exact ⟨μ, ρ, S, he, hs, h⟩)
theorem so_none : SdO p none .none := fun X C g => po_none.pq fun σ H Q ⟨μ, ρ, S, he, hs, h⟩ => by
  unfold evO at h
  exact h.at hs
theorem so_some (ha : SdE p a ca) : SdO p (some a) (.some ca) := fun X C g => (po_some (ha X C g)).pq fun σ H Q ⟨μ, ρ, S, he, hs, h⟩ => by
  unfold evO at h
  refine ⟨μ, ρ, S, he, hs, h.bind.imp fun x S1 μ1 H1 _ e1 s1 h1 v rv => ?_⟩
  cases x with
  | int i => exact ⟨i, rv, h1.at s1⟩
  | _ => exact (show False from h1).elim
def rSl3 (K : Fg) : V → Option Int → Option Int → Hp → VK → Prop := fun x lo hi H Q => rSlN K x lo hi H Q ∨ (rSlL K x lo hi H Q ∨ rSlS x lo hi H Q)
theorem os_slc {K : Fg} {μ : List Addr} {H : Hp} {S : Sto} {x : D} {v : V} {Q : VK} {lo hi : Option Int} (hs : StOk K μ H S) (rx : Rp K μ H x v) (h : Po K μ H (slcD x lo hi S) fun d _ μ' H' => ∀ v, Rp K μ' H' d v → Q v H') : rSl3 K v lo hi H Q := by
  cases x with
  | tup ds =>
    have h : Po K μ H (Res.ok (D.tup (cutD ds lo hi)) S) _ := h
    obtain ⟨a, vs, rfl, h1, h2, h3⟩ := rx
    have hz : (cutD ds lo hi).length ≤ sizeLine := Nat.le_trans (cutD_len _ _ _) h3
    refine .inl ⟨a, vs, rfl, h1.sq, fun hw => ?_, fun _ p o hp c1 c2 => ?_⟩
    · refine h.at hs _ ⟨a, vs, rfl, h1, ?_, hz⟩
      have e : cutV vs lo hi = vs := by
        unfold cutV
        rw [hw.1, hw.2, List.drop_zero, Nat.sub_zero, List.take_length]
      have := cutD_ok h2 lo hi
      rw [e] at this
      exact this
    · exact h μ _ (hs.fresh hp _) (hs.freshOk hp _) _ (rp_tup hs hz (cutD_ok h2 lo hi) hp c1 c2)
  | fix ds =>
    have h : Po K μ H (Res.ok (D.ref S.length) (S ++ [Ob.lst (cutD ds lo hi)])) _ := h
    obtain ⟨a, vs, rfl, h1, h2, h3⟩ := rx
    refine .inr (.inl ⟨a, vs, rfl, h1.sq, fun p hp => ?_⟩)
    obtain ⟨e1, s1, r1⟩ := take_new hs (Nat.le_trans (cutD_len _ _ _) h3) (cutD_ok h2 lo hi) hp
    exact h _ _ e1 s1 _ r1
  | ref n =>
    have h : Po K μ H (match S[n]? with
      | some (Ob.lst ds) => Res.ok (D.ref S.length) (S ++ [Ob.lst (cutD ds lo hi)])
      | none => Res.bad) _ := h
    cases ei : S[n]? with
    | none => rw [ei] at h; exact (show False from h).elim
    | some o =>
      rw [ei] at h
      cases o with
      | lst ds =>
        obtain ⟨a, vs, rfl, _, h1, h2, h3⟩ := rp_ref rx hs ei
        refine .inr (.inl ⟨a, vs, rfl, .of h1, fun p hp => ?_⟩)
        obtain ⟨e1, s1, r1⟩ := take_new hs (Nat.le_trans (cutD_len _ _ _) h3) (cutD_ok h2 lo hi) hp
        exact h _ _ e1 s1 _ r1
  | str z =>
    obtain ⟨hz, h⟩ := Po.ite (show Po K μ H (if z.length ≤ sizeLine then Res.ok (D.str (cutS z lo hi)) S else Res.bad) _ from h)
    exact .inr (.inr ⟨z, rx, hz, h.at hs _ rfl⟩)
  | _ => exact (show False from h).elim
theorem sd_slc {lo hi : Option Expr} {cl ch : CO} {p2 : Pos} (ha : SdE p a ca) (hl : SdO p lo cl) (hh : SdO p hi ch) : SdE p (.Subscript a (.Slice lo hi none p2) pos) (.slc ca cl ch) := fun X C g =>
  (pe_slice (r := rSl3 X.K) (sl_tupN.or (sl_list.or sl_str)) (ha X C g) (hl X C g) (hh X C g)).pq fun σ H Q ⟨μ, ρ, S, he, hs, h⟩ => by
    unfold evE at h
    refine ⟨μ, ρ, S, he, hs, h.bind.imp fun x S1 μ1 H1 _ e1 s1 h1 v rv => ?_⟩
    refine ⟨μ1, ρ, S1, he.mono e1, s1, h1.bind.imp fun l S2 μ2 H2 _ e2 s2 h2 => ?_⟩
    refine ⟨μ2, ρ, S2, he.mono (e1.trans e2), s2, h2.bind.imp fun u S3 μ3 H3 _ e3 s3 h3 => ?_⟩
    exact os_slc s3 ((rv.mono e2).mono e3) h3
theorem sq_rev {k : Nat} {p1 p2 p3 : Pos} (ha : SdR p a cr) : SdQ p (.Subscript a (.Slice none none (some (.UnaryOp .USub (.Constant (.int 1) k p1) p2)) p3) pos) (.rev cr) := fun X C g =>
  (pe_revL (ha X C g)).pq fun σ H Q ⟨μ, ρ, S, he, hs, h⟩ => by
    unfold evQ at h
    refine ⟨μ, ρ, S, he, hs, h.bind.imp fun r S1 μ1 H1 _ e1 s1 h1 v rv => ?_⟩
    obtain ⟨ds, eds, h1⟩ := h1.may
    obtain ⟨a, vs, rfl, h2, h3, h4⟩ := ls_rv s1 rv eds
    refine ⟨a, vs, rfl, h2, fun q hq => ?_⟩
    refine h1 μ1 _ (s1.fresh hq _) (s1.freshOk hq _) q _ (e1.alive _ hq) upd_same (fun m => ?_) (h3.mono (s1.fresh hq _)).reverse (by rw [List.length_reverse]; exact h4)
    obtain ⟨w, ew, _⟩ := s1.mem m
    rw [hq] at ew; cases ew

/-! ### calls of defs -/
theorem sd_call {i : Nat} {x : Str} {es : List Expr} {c : CEs} {q : Pos} (hT : p.T[i]? = some x) (hg : p.sc.names.lookup x = some .globalImplicit) (hd : (x == ("__debug__" : Str)) = false) (hn : notStar e = true) (hns : es.all notStar = true) (ha : SdA p (e :: es) c) :
    SdE p (.Call (.Name x q) (e :: es) [] pos) (.call i c) := fun X C g => by
  obtain ⟨f, fd, ps, k, hm, F, hr, hk, hb⟩ := g.fn i x hT
  refine (pe_call (dvs := []) F hr (by show X.env.scope.names.lookup x = _; rw [g.sc]; exact hg) hm hk hb .nil pass0 (ha X C g) hd (star_cons hn es _) (star_any _ _ hns)).pq fun σ H Q ⟨μ, ρ, S, he, hs, h⟩ => ?_
  unfold evE at h
  refine ⟨μ, ρ, S, he, hs, h.bind.imp fun ds S1 μ1 H1 _ e1 s1 h1 vs rvs => ?_⟩
  exact ⟨μ1, ds, S1, s1, by rw [List.append_nil]; exact rvs, h1⟩
theorem sd_call0 {i : Nat} {x : Str} {q : Pos} (hT : p.T[i]? = some x) (hg : p.sc.names.lookup x = some .globalImplicit) (hd : (x == ("__debug__" : Str)) = false) :
    SdE p (.Call (.Name x q) [] [] pos) (.call i .nil) := fun X C g => by
  obtain ⟨f, fd, ps, k, hm, F, hr, hk, hb⟩ := g.fn i x hT
  refine (pe_call0 (dvs := []) F hr (by show X.env.scope.names.lookup x = _; rw [g.sc]; exact hg) hm hk hb .nil pass0 hd).pq fun σ H Q ⟨μ, ρ, S, he, hs, h⟩ => ?_
  unfold evE at h
  refine ⟨μ, [], S, hs, rfl, ?_⟩
  have h := h.bind
  unfold evEs at h
  exact h.at hs

/-! ### built-ins by name -/
/-- one argument, walked -/
theorem tCB_R {r : List V → Hp → VK → Prop} {K : Fg} {f : En → Sto → Res RV} {g : RV → Sto → Res D} {σ : Slots} {H : Hp} {Q : VK}
    (hg : ∀ (μ : List Addr) (H : Hp) (S : Sto) (x : RV) (v : V), StOk K μ H S → RvR K μ H x v → Po K μ H (g x S) (fun d _ μ' H' => ∀ v, Rp K μ' H' d v → Q v H') → r [v] H Q)
    (h : tE K (fun ρ S => (f ρ S).bind fun v S1 => g v S1) σ H Q) : tCB r (tCons (tR K f) tNil) σ H Q := by
  obtain ⟨μ, ρ, S, he, hs, h⟩ := h
  exact ⟨μ, ρ, S, he, hs, h.bind.imp fun x S1 μ1 H1 _ e1 s1 h1 v rv => hg μ1 H1 S1 x v s1 rv h1⟩
theorem tCB_E {r : List V → Hp → VK → Prop} {K : Fg} {f : En → Sto → Res D} {g : D → Sto → Res D} {σ : Slots} {H : Hp} {Q : VK}
    (hg : ∀ (μ : List Addr) (H : Hp) (S : Sto) (x : D) (v : V), StOk K μ H S → Rp K μ H x v → Po K μ H (g x S) (fun d _ μ' H' => ∀ v, Rp K μ' H' d v → Q v H') → r [v] H Q)
    (h : tE K (fun ρ S => (f ρ S).bind fun v S1 => g v S1) σ H Q) : tCB r (tCons (tE K f) tNil) σ H Q := by
  obtain ⟨μ, ρ, S, he, hs, h⟩ := h
  exact ⟨μ, ρ, S, he, hs, h.bind.imp fun x S1 μ1 H1 _ e1 s1 h1 v rv => hg μ1 H1 S1 x v s1 rv h1⟩
theorem tCB_EE {r : List V → Hp → VK → Prop} {K : Fg} {f f2 : En → Sto → Res D} {g : D → D → Sto → Res D} {σ : Slots} {H : Hp} {Q : VK}
    (hg : ∀ (μ : List Addr) (H : Hp) (S : Sto) (x y : D) (v u : V), StOk K μ H S → Rp K μ H x v → Rp K μ H y u → Po K μ H (g x y S) (fun d _ μ' H' => ∀ v, Rp K μ' H' d v → Q v H') → r [v, u] H Q)
    (h : tE K (fun ρ S => (f ρ S).bind fun v S1 => (f2 ρ S1).bind fun w S2 => g v w S2) σ H Q) : tCB r (tCons (tE K f) (tCons (tE K f2) tNil)) σ H Q := by
  obtain ⟨μ, ρ, S, he, hs, h⟩ := h
  refine ⟨μ, ρ, S, he, hs, h.bind.imp fun x S1 μ1 H1 _ e1 s1 h1 v rv => ?_⟩
  exact ⟨μ1, ρ, S1, he.mono e1, s1, h1.bind.imp fun y S2 μ2 H2 _ e2 s2 h2 u ru => hg μ2 H2 S2 x y v u s2 (rv.mono e2) ru h2⟩
section
variable {x : Str} {q : Pos}
theorem gl_of {X : Cx} {C : Orc} (g : Good X p C) (hg : p.sc.names.lookup x = some .globalImplicit) : Gl X x := by
  show X.env.scope.names.lookup x = _
  rw [g.sc]
  exact hg
/-- a module's name for a value -/
theorem sd_con {d : D} (h : (x, Gv.con d) ∈ p.G) (hg : p.sc.names.lookup x = some .globalImplicit) (hd : (x == ("__debug__" : Str)) = false) : SdE p (.Name x q) (.lit d) := fun X C g => by
  obtain ⟨v, u, h1, h2, h3⟩ := g.glb x _ h
  exact (pe_glob (gl_of g hg) h1 h2 hd).pq fun σ H Q ⟨μ, ρ, S, he, hs, h⟩ => by
    unfold evE at h
    exact h.at hs v (h3 _ _)
/-- f(r), f a built-in function -/
theorem sd_agg {f : Ag} {id : String} {r : Fg → List V → Hp → VK → Prop} (hc : ∀ X C, Good X p C → CallR X (.builtin id) (r X.K)) (hb : x ∈ p.B) (hg : p.sc.names.lookup x = some .globalImplicit) (hv : bootBuiltins x = some (.builtin id)) (hn : x ≠ "__name__") (hdb : (x == ("__debug__" : Str)) = false) (hst : notStar e = true)
    (ho : ∀ (K : Fg) (μ : List Addr) (H : Hp) (S : Sto) (x : RV) (v : V) (Q : VK), StOk K μ H S → RvR K μ H x v → Po K μ H (aggD f x S) (fun d _ μ' H' => ∀ v, Rp K μ' H' d v → Q v H') → r K [v] H Q) (ha : SdR p e cr) :
    SdE p (.Call (.Name x q) [e] [] pos) (.agg f cr) := fun X C g =>
  (pe_callB (hc X C g) (gl_of g hg) (g.blt x hb) hv (pa_cons (ha X C g) pa_nil (star_cons hst [] _)) hn hdb (star_cons hst [] _) rfl).pq fun σ H Q h => tCB_R (fun μ H S x v => ho X.K μ H S x v Q) (by
    obtain ⟨μ, ρ, S, he, hs, h⟩ := h
    unfold evE at h
    exact ⟨μ, ρ, S, he, hs, h⟩)
end
theorem greatest_spec : ∀ {ns : List Int} {m : Int}, greatest ns = some m → m ∈ ns ∧ ∀ y, y ∈ ns → y ≤ m
  | [x], m, h => by cases h; exact ⟨List.mem_singleton.mpr rfl, fun y hy => by rw [List.mem_singleton.mp hy]; exact Int.le_refl _⟩
  | x :: z :: r, m, h => by
    have h : (greatest (z :: r)).map (fun m => if x < m then m else x) = some m := h
    cases e : greatest (z :: r) with
    | none => rw [e] at h; cases h
    | some k =>
      rw [e] at h
      obtain ⟨h1, h2⟩ := greatest_spec e
      have h : (if x < k then k else x) = m := Option.some.inj h
      subst h
      split
      · exact ⟨List.mem_cons_of_mem _ h1, fun y hy => by
          rcases List.mem_cons.mp hy with e | hy
          · rw [e]; omega
          · exact h2 y hy⟩
      · exact ⟨List.mem_cons_self, fun y hy => by
          rcases List.mem_cons.mp hy with e | hy
          · rw [e]; exact Int.le_refl _
          · have := h2 y hy
            omega⟩
theorem least_spec : ∀ {ns : List Int} {m : Int}, least ns = some m → m ∈ ns ∧ ∀ y, y ∈ ns → m ≤ y
  | [x], m, h => by cases h; exact ⟨List.mem_singleton.mpr rfl, fun y hy => by rw [List.mem_singleton.mp hy]; exact Int.le_refl _⟩
  | x :: z :: r, m, h => by
    have h : (least (z :: r)).map (fun m => if m < x then m else x) = some m := h
    cases e : least (z :: r) with
    | none => rw [e] at h; cases h
    | some k =>
      rw [e] at h
      obtain ⟨h1, h2⟩ := least_spec e
      have h : (if k < x then k else x) = m := Option.some.inj h
      subst h
      split
      · exact ⟨List.mem_cons_of_mem _ h1, fun y hy => by
          rcases List.mem_cons.mp hy with e | hy
          · rw [e]; omega
          · exact h2 y hy⟩
      · exact ⟨List.mem_cons_self, fun y hy => by
          rcases List.mem_cons.mp hy with e | hy
          · rw [e]; exact Int.le_refl _
          · have := h2 y hy
            omega⟩
section
variable {q : Pos}
theorem sd_len (hb : ("len" : Str) ∈ p.B) (hg : p.sc.names.lookup ("len" : Str) = some .globalImplicit) (hst : notStar e = true) (ha : SdR p e cr) : SdE p (.Call (.Name "len" q) [e] [] pos) (.agg .len cr) :=
  sd_agg (r := fun K xs H Q => ∃ x n, xs = [x] ∧ LenV K x H n ∧ Q (.int n) H) (fun X C g => call_len) hb hg boot_len (by decide) (by decide) hst (fun K μ H S x v Q hs rv h => by
    by_cases hx : ∃ z, x = .val (.str z)
    · obtain ⟨z, rfl⟩ := hx
      obtain ⟨hz, h⟩ := Po.ite (show Po K μ H (if z.length ≤ sizeLine then Res.ok (D.int z.length) S else Res.bad) _ from h)
      cases rv
      exact ⟨_, z.length, rfl, ⟨hz, rfl⟩, h.at hs _ rfl⟩
    · have h : Po K μ H (may (sqOf S x) fun ds => Res.ok (D.int ds.length) S) (fun d _ μ' H' => ∀ v, Rp K μ' H' d v → Q v H') := by
        cases x with
        | own ds => exact h
        | val d => cases d <;> first | exact h | exact absurd ⟨_, rfl⟩ hx
      obtain ⟨ds, e1, h⟩ := h.may
      obtain ⟨a, vs, rfl, h1, h2, _⟩ := sq_rv hs rv e1
      refine ⟨_, ds.length, rfl, ?_, h.at hs _ rfl⟩
      rcases h1 with h1 | ⟨h1, _⟩
      · exact .inl ⟨vs, h1, h2.length⟩
      · exact .inr ⟨vs, h1.sq, h2.length⟩) ha
theorem sd_sum (hb : ("sum" : Str) ∈ p.B) (hg : p.sc.names.lookup ("sum" : Str) = some .globalImplicit) (hst : notStar e = true) (ha : SdR p e cr) : SdE p (.Call (.Name "sum" q) [e] [] pos) (.agg .sum cr) :=
  sd_agg (r := rSum) (fun X C g => cr_sum g.calm) hb hg (by decide +kernel) (by decide) (by decide) hst (fun K μ H S x v Q hs rv h => by
    obtain ⟨ds, e1, h⟩ := Po.may (show Po K μ H (may (lsOf S x) fun ds => may (intsOf ds) fun ns => Res.ok (D.int ns.sum) S) _ from h)
    obtain ⟨ns, e2, h⟩ := h.may
    obtain ⟨a, vs, rfl, h1, h2, _⟩ := ls_rv hs rv e1
    exact ⟨a, ns, rfl, by rw [← rp_ints h2 e2]; exact h1, h.at hs _ rfl⟩) ha
theorem sd_max (hb : ("max" : Str) ∈ p.B) (hg : p.sc.names.lookup ("max" : Str) = some .globalImplicit) (hst : notStar e = true) (ha : SdR p e cr) : SdE p (.Call (.Name "max" q) [e] [] pos) (.agg .max cr) :=
  sd_agg (r := rMax) (fun X C g => cr_max g.calm) hb hg (by decide +kernel) (by decide) (by decide) hst (fun K μ H S x v Q hs rv h => by
    obtain ⟨ds, e1, h⟩ := Po.may (show Po K μ H (may (lsOf S x) fun ds => may (intsOf ds) fun ns => may (greatest ns) fun m => Res.ok (D.int m) S) _ from h)
    obtain ⟨ns, e2, h⟩ := h.may
    obtain ⟨m, e3, h⟩ := h.may
    obtain ⟨a, vs, rfl, h1, h2, _⟩ := ls_rv hs rv e1
    obtain ⟨g1, g2⟩ := greatest_spec e3
    refine ⟨a, ns, rfl, by rw [← rp_ints h2 e2]; exact h1, List.length_pos_of_mem g1, fun k k1 k2 => ?_⟩
    have : k = m := Int.le_antisymm (g2 k k1) (k2 m g1)
    rw [this]
    exact h.at hs _ rfl) ha
theorem sd_min (hb : ("min" : Str) ∈ p.B) (hg : p.sc.names.lookup ("min" : Str) = some .globalImplicit) (hst : notStar e = true) (ha : SdR p e cr) : SdE p (.Call (.Name "min" q) [e] [] pos) (.agg .min cr) :=
  sd_agg (r := rMin) (fun X C g => cr_min g.calm) hb hg (by decide +kernel) (by decide) (by decide) hst (fun K μ H S x v Q hs rv h => by
    obtain ⟨ds, e1, h⟩ := Po.may (show Po K μ H (may (lsOf S x) fun ds => may (intsOf ds) fun ns => may (least ns) fun m => Res.ok (D.int m) S) _ from h)
    obtain ⟨ns, e2, h⟩ := h.may
    obtain ⟨m, e3, h⟩ := h.may
    obtain ⟨a, vs, rfl, h1, h2, _⟩ := ls_rv hs rv e1
    obtain ⟨g1, g2⟩ := least_spec e3
    refine ⟨a, ns, rfl, by rw [← rp_ints h2 e2]; exact h1, List.length_pos_of_mem g1, fun k k1 k2 => ?_⟩
    have : k = m := Int.le_antisymm (k2 m g1) (g2 k k1)
    rw [this]
    exact h.at hs _ rfl) ha
theorem sd_all (hb : ("all" : Str) ∈ p.B) (hg : p.sc.names.lookup ("all" : Str) = some .globalImplicit) (hst : notStar e = true) (ha : SdR p e cr) : SdE p (.Call (.Name "all" q) [e] [] pos) (.agg .all cr) :=
  sd_agg (r := rAll) (fun X C g => cr_all g.calm) hb hg (by decide +kernel) (by decide) (by decide) hst (fun K μ H S x v Q hs rv h => by
    obtain ⟨ds, e1, h⟩ := Po.may (show Po K μ H (may (lsOf S x) fun ds => may (boolsOf ds) fun bs => Res.ok (D.bl (bs.all id)) S) _ from h)
    obtain ⟨ns, e2, h⟩ := h.may
    obtain ⟨a, vs, rfl, h1, h2, _⟩ := ls_rv hs rv e1
    exact ⟨a, ns, rfl, by rw [← rp_bools h2 e2]; exact h1, h.at hs _ rfl⟩) ha
theorem sd_any (hb : ("any" : Str) ∈ p.B) (hg : p.sc.names.lookup ("any" : Str) = some .globalImplicit) (hst : notStar e = true) (ha : SdR p e cr) : SdE p (.Call (.Name "any" q) [e] [] pos) (.agg .any cr) :=
  sd_agg (r := rAny) (fun X C g => cr_any g.calm) hb hg (by decide +kernel) (by decide) (by decide) hst (fun K μ H S x v Q hs rv h => by
    obtain ⟨ds, e1, h⟩ := Po.may (show Po K μ H (may (lsOf S x) fun ds => may (boolsOf ds) fun bs => Res.ok (D.bl (bs.any id)) S) _ from h)
    obtain ⟨ns, e2, h⟩ := h.may
    obtain ⟨a, vs, rfl, h1, h2, _⟩ := ls_rv hs rv e1
    exact ⟨a, ns, rfl, by rw [← rp_bools h2 e2]; exact h1, h.at hs _ rfl⟩) ha
/-- tuple(r), list(r) -/
theorem sd_tuple (hb : ("tuple" : Str) ∈ p.B) (hg : p.sc.names.lookup ("tuple" : Str) = some .globalImplicit) (hst : notStar e = true) (ha : SdR p e cr) : SdE p (.Call (.Name "tuple" q) [e] [] pos) (.agg .tuple cr) := fun X C g =>
  (pe_callTy call_tupleN (gl_of g hg) (g.blt _ hb) (by decide +kernel) (pa_cons (ha X C g) pa_nil (star_cons hst [] _)) (by decide) (by decide) (star_cons hst [] _) rfl).pq fun σ H Q h => tCB_R (g := aggD .tuple) (fun μ H S x v hs rv h => by
    obtain ⟨ds, e1, h⟩ := Po.may (show Po X.K μ H (may (sqOf S x) fun ds => Res.ok (D.tup ds) S) _ from h)
    obtain ⟨a, vs, rfl, h1, h2, h3⟩ := sq_rv hs rv e1
    refine ⟨a, vs, rfl, ?_⟩
    rcases h1 with h1 | ⟨h1, e2⟩
    · exact .inl ⟨h1, fun l o hl c1 c2 => h μ _ (hs.fresh hl _) (hs.freshOk hl _) _ (rp_tup hs h3 h2 hl c1 c2)⟩
    · exact .inr ⟨h1.sq, h.at hs _ ⟨a, vs, rfl, h1, h2, h3⟩⟩) (by
    obtain ⟨μ, ρ, S, he, hs, h⟩ := h
    unfold evE at h
    exact ⟨μ, ρ, S, he, hs, h⟩)
/-- list(x): of a list, a tuple, a text -/
def rListS (K : Fg) (xs : List V) (H : Hp) (Q : V → Hp → Prop) : Prop := (∃ p ys, xs = [.ref p] ∧ (SqL K H p ys ∨ SqT K H p ys) ∧ ∀ l, H l = none → Q (.ref l) (upd H l (.lst ys))) ∨
  (∃ z : Str, xs = [.str z] ∧ z.length ≤ sizeLine ∧ ∀ l, H l = none → Q (.ref l) (upd H l (.lst (z.cps.toList.map fun c => V.str ⟨#[c]⟩))))
theorem call_list_ofS {X : Cx} (hc : X.calm = true) : CallR X (.type "list") (rListS X.K) := by
  intro pins s σ H xs us Q I r h
  rcases h with h | h
  · exact call_list_of pins s σ H xs us Q I r h
  · obtain ⟨z, rfl, hz, q⟩ := h
    obtain ⟨u, rfl, rx⟩ := vals1 r
    obtain ⟨t, rfl⟩ := rx
    refine PySem.call_list_str (I.ok.hd hc) z t (fun h' tk acc c' hk e hi => ?_) hz
    have zl : z.cps.toList.length = z.cps.size := Array.length_toList
    refine ⟨.ref s.heap.objs.size, upd H s.heap.objs.size (.lst (z.cps.toList.map fun c => V.str ⟨#[c]⟩)), I.laid hk (Nat.le_refl _) ⟨by rw [List.length_map, zl]; exact hz, acc.toList, c', ?_, by rw [Array.toArray_toList]; exact e⟩, rfl, q _ (I.hok.fresh (Nat.le_refl _))⟩
    refine vals_of_idx _ _ (by rw [List.length_map, zl, Array.length_toList]; exact hi.1) fun j u hj => ?_
    obtain ⟨c, t', hc, rfl⟩ := hi.2 j u (by rw [← Array.getElem?_toList]; exact hj)
    exact ⟨.str ⟨#[c]⟩, by simp [hc], ⟨_, rfl⟩⟩
theorem letters_rp {K : Fg} {μ : List Addr} {H : Hp} (l : List Nat) : RpA K μ H (l.map fun c => D.str ⟨#[c]⟩) (l.map fun c => V.str ⟨#[c]⟩) := by
  induction l with
  | nil => exact rfl
  | cons k l ih => exact .cons rfl ih
theorem sq_list (hb : ("list" : Str) ∈ p.B) (hg : p.sc.names.lookup ("list" : Str) = some .globalImplicit) (hst : notStar e = true) (ha : SdR p e cr) : SdQ p (.Call (.Name "list" q) [e] [] pos) (.list cr) := fun X C g =>
  (pe_callTy (call_list_ofS g.calm) (gl_of g hg) (g.blt _ hb) (by decide +kernel) (pa_cons (ha X C g) pa_nil (star_cons hst [] _)) (by decide) (by decide) (star_cons hst [] _) rfl).pq fun σ H Q ⟨μ, ρ, S, he, hs, h⟩ => by
    unfold evQ at h
    refine ⟨μ, ρ, S, he, hs, h.bind.imp fun x S1 μ1 H1 _ e1 s1 h1 v rv => ?_⟩
    obtain ⟨ds, eds, h1⟩ := h1.may
    by_cases ht : ∃ z, x = .val (.str z)
    · obtain ⟨z, rfl⟩ := ht
      have rv' : v = .str z := rv
      subst rv'
      have eds' : (if z.length ≤ sizeLine then some (lettersD z) else none) = some ds := eds
      by_cases hz : z.length ≤ sizeLine
      · rw [if_pos hz, Option.some.injEq] at eds'
        subst eds'
        refine .inr ⟨z, rfl, hz, fun l hl => ?_⟩
        have r0 : RpA X.K μ1 H1 (lettersD z) (z.cps.toList.map fun c => V.str ⟨#[c]⟩) := letters_rp _
        refine h1 μ1 _ (s1.fresh hl _) (s1.freshOk hl _) l _ (e1.alive _ hl) upd_same (fun m => ?_) (r0.mono (s1.fresh hl _)) (by unfold lettersD; rw [List.length_map, Array.length_toList]; exact hz)
        obtain ⟨w, ew, _⟩ := s1.mem m
        rw [hl] at ew; cases ew
      · rw [if_neg hz] at eds'
        cases eds'
    · have eds' : sqOf S1 x = some ds := by
        cases x with
        | own es => exact eds
        | val d => cases d <;> first | exact eds | exact absurd ⟨_, rfl⟩ ht
      obtain ⟨a, vs, rfl, h2, h3, h4⟩ := sq_rv s1 rv eds'
      refine .inl ⟨a, vs, rfl, sq_or h2, fun l hl => ?_⟩
      refine h1 μ1 _ (s1.fresh hl _) (s1.freshOk hl _) l _ (e1.alive _ hl) upd_same (fun m => ?_) (h3.mono (s1.fresh hl _)) h4
      obtain ⟨w, ew, _⟩ := s1.mem m
      rw [hl] at ew; cases ew
end
end
end PQ

/-! More built-ins, methods of lists, isinstance. -/
namespace PQ
open PySem PySem.Spec PyProof.Rows L2
section
variable {p : Pl} {a b c e : Expr} {ca cb cc : CE} {cr : CR} {pos q : Pos}
/-- T(e), T a built-in type; f(e), f(e, e') built-in functions -/
theorem sd_ty1 {f : F1} {x : Str} {T : String} {r : Fg → List V → Hp → VK → Prop} (hc : ∀ X C, Good X p C → CallR X (.type T) (r X.K)) (hb : x ∈ p.B) (hg : p.sc.names.lookup x = some .globalImplicit) (hv : bootBuiltins x = some (.type T)) (hn : x ≠ "__name__") (hdb : (x == ("__debug__" : Str)) = false) (hst : notStar e = true)
    (ho : ∀ (K : Fg) (μ : List Addr) (H : Hp) (S : Sto) (x : D) (v : V) (Q : VK), StOk K μ H S → Rp K μ H x v → Po K μ H (fn1D f x S) (fun d _ μ' H' => ∀ v, Rp K μ' H' d v → Q v H') → r K [v] H Q) (ha : SdE p e ca) :
    SdE p (.Call (.Name x q) [e] [] pos) (.fn1 f ca) := fun X C g =>
  (pe_callTy (hc X C g) (gl_of g hg) (g.blt x hb) hv (pa_cons (ha X C g) pa_nil (star_cons hst [] _)) hn hdb (star_cons hst [] _) rfl).pq fun σ H Q h => tCB_E (fun μ H S x v => ho X.K μ H S x v Q) (by
    obtain ⟨μ, ρ, S, he, hs, h⟩ := h
    unfold evE at h
    exact ⟨μ, ρ, S, he, hs, h⟩)
theorem sd_fun1 {f : F1} {x : Str} {T : String} {r : Fg → List V → Hp → VK → Prop} (hc : ∀ X C, Good X p C → CallR X (.builtin T) (r X.K)) (hb : x ∈ p.B) (hg : p.sc.names.lookup x = some .globalImplicit) (hv : bootBuiltins x = some (.builtin T)) (hn : x ≠ "__name__") (hdb : (x == ("__debug__" : Str)) = false) (hst : notStar e = true)
    (ho : ∀ (K : Fg) (μ : List Addr) (H : Hp) (S : Sto) (x : D) (v : V) (Q : VK), StOk K μ H S → Rp K μ H x v → Po K μ H (fn1D f x S) (fun d _ μ' H' => ∀ v, Rp K μ' H' d v → Q v H') → r K [v] H Q) (ha : SdE p e ca) :
    SdE p (.Call (.Name x q) [e] [] pos) (.fn1 f ca) := fun X C g =>
  (pe_callB (hc X C g) (gl_of g hg) (g.blt x hb) hv (pa_cons (ha X C g) pa_nil (star_cons hst [] _)) hn hdb (star_cons hst [] _) rfl).pq fun σ H Q h => tCB_E (fun μ H S x v => ho X.K μ H S x v Q) (by
    obtain ⟨μ, ρ, S, he, hs, h⟩ := h
    unfold evE at h
    exact ⟨μ, ρ, S, he, hs, h⟩)
theorem sd_fun2 {f : F2} {x : Str} {T : String} {r : Fg → List V → Hp → VK → Prop} (hc : ∀ X C, Good X p C → CallR X (.builtin T) (r X.K)) (hb : x ∈ p.B) (hg : p.sc.names.lookup x = some .globalImplicit) (hv : bootBuiltins x = some (.builtin T)) (hn : x ≠ "__name__") (hdb : (x == ("__debug__" : Str)) = false) (hst : notStar a = true) (hst2 : notStar b = true)
    (ho : ∀ (K : Fg) (μ : List Addr) (H : Hp) (S : Sto) (x y : D) (v u : V) (Q : VK), StOk K μ H S → Rp K μ H x v → Rp K μ H y u → Po K μ H (fn2D f x y S) (fun d _ μ' H' => ∀ v, Rp K μ' H' d v → Q v H') → r K [v, u] H Q) (ha : SdE p a ca) (hb' : SdE p b cb) :
    SdE p (.Call (.Name x q) [a, b] [] pos) (.fn2 f ca cb) := fun X C g =>
  (pe_callB (hc X C g) (gl_of g hg) (g.blt x hb) hv (pa_cons (ha X C g) (pa_cons (hb' X C g) pa_nil (star_cons hst2 [] _)) (star_cons hst [b] _)) hn hdb (star_cons hst [b] _) (star_any _ _ (by rw [List.all_cons, hst2]; rfl))).pq fun σ H Q h => tCB_EE (fun μ H S x y v u => ho X.K μ H S x y v u Q) (by
    obtain ⟨μ, ρ, S, he, hs, h⟩ := h
    unfold evE at h
    exact ⟨μ, ρ, S, he, hs, h⟩)
theorem sd_intT (hb : ("int" : Str) ∈ p.B) (hg : p.sc.names.lookup ("int" : Str) = some .globalImplicit) (hst : notStar e = true) (ha : SdE p e ca) : SdE p (.Call (.Name "int" q) [e] [] pos) (.fn1 .int ca) :=
  sd_ty1 (r := fun _ xs H Q => (∃ i, xs = [.int i] ∧ Q (.int i) H) ∨ ∃ k, xs = [.bl k] ∧ Q (.int (if k then 1 else 0)) H) (fun X C g => call_int1) hb hg (by decide +kernel) (by decide) (by decide) hst (fun K μ H S x v Q hs rv h => by
    cases x with
    | int i => cases rv; exact .inl ⟨i, rfl, Po.at (show Po K μ H (Res.ok (D.int i) S) _ from h) hs _ rfl⟩
    | bl k => cases rv; exact .inr ⟨k, rfl, Po.at (show Po K μ H (Res.ok (D.int (if k then 1 else 0)) S) _ from h) hs _ rfl⟩
    | _ => exact (show False from h).elim) ha
theorem sd_strT (hb : ("str" : Str) ∈ p.B) (hg : p.sc.names.lookup ("str" : Str) = some .globalImplicit) (hst : notStar e = true) (ha : SdE p e ca) : SdE p (.Call (.Name "str" q) [e] [] pos) (.fn1 .str ca) :=
  sd_ty1 (r := fun _ xs H Q => ∃ i, xs = [.int i] ∧ i.natAbs.log2 < 1920 ∧ Q (.str (toString i)) H) (fun X C g => call_str_int) hb hg (by decide +kernel) (by decide) (by decide) hst (fun K μ H S x v Q hs rv h => by
    cases x with
    | int i =>
      cases rv
      obtain ⟨z, h⟩ := Po.ite (show Po K μ H (if i.natAbs.log2 < 1920 then Res.ok (D.str (toString i)) S else Res.bad) _ from h)
      exact ⟨i, rfl, z, Po.at h hs _ rfl⟩
    | _ => exact (show False from h).elim) ha
theorem sd_abs (hb : ("abs" : Str) ∈ p.B) (hg : p.sc.names.lookup ("abs" : Str) = some .globalImplicit) (hst : notStar e = true) (ha : SdE p e ca) : SdE p (.Call (.Name "abs" q) [e] [] pos) (.fn1 .abs ca) :=
  sd_fun1 (r := fun _ xs H Q => ∃ i, xs = [.int i] ∧ Q (.int (if i < 0 then -i else i)) H) (fun X C g => call_abs) hb hg (by decide +kernel) (by decide) (by decide) hst (fun K μ H S x v Q hs rv h => by
    cases x with
    | int i => cases rv; exact ⟨i, rfl, Po.at (show Po K μ H (Res.ok (D.int (if i < 0 then -i else i)) S) _ from h) hs _ rfl⟩
    | _ => exact (show False from h).elim) ha
theorem sd_min2 (hb : ("min" : Str) ∈ p.B) (hg : p.sc.names.lookup ("min" : Str) = some .globalImplicit) (hst : notStar a = true) (hst2 : notStar b = true) (ha : SdE p a ca) (hb' : SdE p b cb) : SdE p (.Call (.Name "min" q) [a, b] [] pos) (.fn2 .min ca cb) :=
  sd_fun2 (r := fun _ xs H Q => ∃ i j, xs = [.int i, .int j] ∧ Q (.int (if j < i then j else i)) H) (fun X C g => call_min2 g.calm) hb hg (by decide +kernel) (by decide) (by decide) hst hst2 (fun K μ H S x y v u Q hs rv ru h => by
    cases x <;> cases y <;> first | exact (show False from h).elim | (cases rv; cases ru; exact ⟨_, _, rfl, Po.at h hs _ rfl⟩)) ha hb'
theorem sd_max2 (hb : ("max" : Str) ∈ p.B) (hg : p.sc.names.lookup ("max" : Str) = some .globalImplicit) (hst : notStar a = true) (hst2 : notStar b = true) (ha : SdE p a ca) (hb' : SdE p b cb) : SdE p (.Call (.Name "max" q) [a, b] [] pos) (.fn2 .max ca cb) :=
  sd_fun2 (r := fun _ xs H Q => ∃ i j, xs = [.int i, .int j] ∧ Q (.int (if j > i then j else i)) H) (fun X C g => call_max2 g.calm) hb hg (by decide +kernel) (by decide) (by decide) hst hst2 (fun K μ H S x y v u Q hs rv ru h => by
    cases x <;> cases y <;> first | exact (show False from h).elim | (cases rv; cases ru; exact ⟨_, _, rfl, Po.at h hs _ rfl⟩)) ha hb'

theorem sd_gcd {x : Str} (hm : (x, Gv.fn "math.gcd") ∈ p.G) (hg : p.sc.names.lookup x = some .globalImplicit) (hdb : (x == ("__debug__" : Str)) = false) (hst : notStar a = true) (hst2 : notStar b = true) (ha : SdE p a ca) (hb' : SdE p b cb) : SdE p (.Call (.Name x q) [a, b] [] pos) (.fn2 .gcd ca cb) := fun X C g =>
  (pe_callBfun cr_gcd (gl_of g hg) (g.glb x _ hm) (pa_cons (ha X C g) (pa_cons (hb' X C g) pa_nil (star_cons hst2 [] _)) (star_cons hst [b] _)) hdb (star_cons hst [b] _) (star_any _ _ (by rw [List.all_cons, hst2]; rfl))).pq fun σ H Q h => tCB_EE (g := fn2D .gcd) (fun μ H S x y v u hs rv ru h => by
    cases x <;> cases y <;> first | exact (show False from h).elim | (cases rv; cases ru; exact ⟨_, _, rfl, Po.at h hs _ rfl⟩)) (by
    obtain ⟨μ, ρ, S, he, hs, h⟩ := h
    unfold evE at h
    exact ⟨μ, ρ, S, he, hs, h⟩)

/-! ### isinstance -/
def tyN : Ty → String
  | .int => "int" | .bool => "bool" | .str => "str" | .tuple => "tuple"
theorem sqt_ty {K : Fg} {H : Hp} {a : Addr} {xs : List V} (h : SqT K H a xs) : TyX K H (.ref a) (.type "tuple") := by
  rcases h with (h | ⟨o, h⟩) | ⟨o, its, n, hk, hc, _⟩
  · exact .base (.tup h)
  · exact .fTuple h
  · exact .kTuple hk hc
theorem fix_ty {K : Fg} {H : Hp} {a : Addr} {xs : List V} (h : Fix K H a xs) : TyX K H (.ref a) (.type "list") := by
  rcases h with ⟨o, h⟩ | ⟨o, its, n, hk, hc, _⟩
  · exact .base (.frz h)
  · exact .kList hk hc
theorem ty_rp {K : Fg} {μ : List Addr} {H : Hp} {S : Sto} {x : D} {v : V} {k : Bool} {t : Ty} (hs : StOk K μ H S) (r : Rp K μ H x v) (h : tyB t S x = some k) : ∃ n, TyX K H v (.type n) ∧ kitB n (tyN t) = some k := by
  cases x with
  | non => cases r; cases h; exact ⟨"NoneType", .base .non, by cases t <;> decide +kernel⟩
  | bl b => cases r; cases h; exact ⟨"bool", .base (.bl b), by cases t <;> decide +kernel⟩
  | int i => cases r; cases h; exact ⟨"int", .base (.int i), by cases t <;> decide +kernel⟩
  | str z => cases r; cases h; exact ⟨"str", .base (.str z), by cases t <;> decide +kernel⟩
  | tup ds =>
    obtain ⟨a, vs, rfl, h1, _⟩ := r
    cases h
    exact ⟨"tuple", sqt_ty h1.sq, by cases t <;> decide +kernel⟩
  | fix ds =>
    obtain ⟨a, vs, rfl, h1, _⟩ := r
    cases h
    exact ⟨"list", fix_ty h1, by cases t <;> decide +kernel⟩
  | ref i =>
    have h : (match S[i]? with
      | some (Ob.lst _) => some false
      | none => none) = some k := h
    cases ei : S[i]? with
    | none => rw [ei] at h; cases h
    | some o =>
      rw [ei] at h
      cases o with
      | lst ds =>
        obtain ⟨a, vs, rfl, _, h1, _⟩ := rp_ref r hs ei
        cases h
        exact ⟨"list", .base (.lst h1), by cases t <;> decide +kernel⟩
theorem sd_isi {t : Ty} {x : Str} {q2 : Pos} (hb : ("isinstance" : Str) ∈ p.B) (hg : p.sc.names.lookup ("isinstance" : Str) = some .globalImplicit) (hb2 : x ∈ p.B) (hg2 : p.sc.names.lookup x = some .globalImplicit) (hv : bootBuiltins x = some (.type (tyN t))) (hn : x ≠ "__name__") (hdb : (x == ("__debug__" : Str)) = false) (hst : notStar a = true) (ha : SdE p a ca) :
    SdE p (.Call (.Name "isinstance" q) [a, .Name x q2] [] pos) (.isi ca t) := fun X C g =>
  (pe_callB call_isi (gl_of g hg) (g.blt _ hb) (by decide +kernel) (pa_cons (ha X C g) (pa_cons (pe_bltn (v := .ty (tyN t)) (gl_of g hg2) (g.blt _ hb2) hv rfl hn hdb) pa_nil rfl) (star_cons hst _ _)) (by decide) (by decide) (star_cons hst _ _) rfl).pq fun σ H Q ⟨μ, ρ, S, he, hs, h⟩ => by
    unfold evE at h
    refine ⟨μ, ρ, S, he, hs, h.bind.imp fun y S1 μ1 H1 _ e1 s1 h1 v rv => ?_⟩
    obtain ⟨k, ek, h1⟩ := h1.may
    obtain ⟨n, ty, hk⟩ := ty_rp s1 rv ek
    exact ⟨v, .ty (tyN t), .type n, .type (tyN t), k, rfl, .ty _, ty, kit_ty hk, h1.at s1 _ rfl⟩

/-! ### methods of lists -/
section
variable {K : Fg} {μ : List Addr} {H : Hp} {S : Sto} {x : D} {v : V}
/-- a value that is a list of the store -/
theorem Po.withL {α : Type} {f : Nat → List D → Res α} {P : α → Sto → List Addr → Hp → Prop} (hs : StOk K μ H S) (r : Rp K μ H x v) (h : Po K μ H (withL S x f) P) : ∃ i ds a vs, x = .ref i ∧ v = .ref a ∧ S[i]? = some (.lst ds) ∧ μ[i]? = some a ∧ H a = some (.lst vs) ∧ RpA K μ H ds vs ∧ ds.length ≤ sizeLine ∧ Po K μ H (f i ds) P := by
  cases x with
  | ref i =>
    have h : Po K μ H (match S[i]? with
      | some (Ob.lst ds) => f i ds
      | none => Res.bad) P := h
    cases ei : S[i]? with
    | none => rw [ei] at h; exact h.elim
    | some o =>
      rw [ei] at h
      cases o with
      | lst ds =>
        obtain ⟨a, vs, e1, e2, h1, h2, h3⟩ := rp_ref r hs ei
        exact ⟨i, ds, a, vs, rfl, e1, ei, e2, h1, h2, h3, h⟩
  | _ => exact (show False from h).elim
theorem ty_lst {a : Addr} {vs : List V} (h : H a = some (.lst vs)) : tyV K "list" (.ref a) H := .inl ⟨rfl, _, .of h⟩
end
theorem few1 (cpos : Pos) (env : Env) (hst : notStar e = true) : ((backTo cpos (starEach [e] env)).all (fun x => !x.1) && (backToKw cpos (keywordEach [] env)).all (fun x => x.1.isSome)
      && decide ([e].length + ([] : List Keyword).length + (if ([] : List Keyword).isEmpty then 0 else 1) < 30)) = true := by
  rw [star_cons hst]
  rfl
/-- a method with one argument, a method without -/
theorem sd_bm1 {nm : Str} {id : String} {r : V → List V → Hp → VK → Prop} {ap : Pos} {f : D → D → Sto → Res D} {cx : CE} (slot : Slot "list" nm id) (hty : typeOf (.builtin id) = pure (.type "method_descriptor")) (hm : ∀ X : Cx, MtR X id r)
    (ho : ∀ (K : Fg) (μ : List Addr) (H : Hp) (S : Sto) (x y : D) (v u : V) (Q : VK), StOk K μ H S → Rp K μ H x v → Rp K μ H y u → Po K μ H (f x y S) (fun d _ μ' H' => ∀ v, Rp K μ' H' d v → Q v H') → r v [u] H Q)
    (hev : ∀ C ρ S, evE C cx ρ S = (evE C ca ρ S).bind fun o S1 => withL S1 o fun _ _ => (evE C cb ρ S1).bind fun v S2 => f o v S2)
    (hc : notCall a = true) (hl : (ap.endLine == pos.line) = true) (hst : notStar e = true) (ha : SdE p a ca) (hb : SdE p e cb) : SdE p (.Call (.Attribute a nm ap) [e] [] pos) cx := fun X C g =>
  (pe_bm PySem.F.plainAttrs_list slot hty (hm X) (ha X C g) (pa_cons (hb X C g) pa_nil (star_cons hst [] _)) (plain_base hc _ _ _) (few1 _ _ hst) hl (star_cons hst [] _) rfl).pq fun σ H Q ⟨μ, ρ, S, he, hs, h⟩ => by
    rw [hev] at h
    refine ⟨μ, ρ, S, he, hs, h.bind.imp fun x S1 μ1 H1 _ e1 s1 h1 v rv => ?_⟩
    obtain ⟨i, ds, a0, vs, rfl, rfl, ei, ea, k1, k2, k3, h1⟩ := h1.withL s1 rv
    refine ⟨ty_lst k1, μ1, ρ, S1, he.mono e1, s1, h1.bind.imp fun y S2 μ2 H2 _ e2 s2 h2 w rw_ => ?_⟩
    exact ho X.K μ2 H2 S2 (.ref i) y _ w Q s2 (rv.mono e2) rw_ h2
theorem sd_app {ap : Pos} (hc : notCall a = true) (hl : (ap.endLine == pos.line) = true) (hst : notStar e = true) (ha : SdE p a ca) (hb : SdE p e cb) : SdE p (.Call (.Attribute a "append" ap) [e] [] pos) (.app ca cb) :=
  sd_bm1 (f := appD) PySem.F.slot_list_append PySem.F.type_list_append (fun X => mt_append) (fun K μ H S x y v u Q hs rx ry h => by
    obtain ⟨i, ds, a0, vs, rfl, rfl, ei, ea, k1, k2, k3, h⟩ := Po.withL hs rx h
    obtain ⟨hz, h⟩ := h.ite
    obtain ⟨x1, x2⟩ := hs.put ea (k2.append (.cons ry .nil)) (by rw [List.length_append]; exact hz)
    exact ⟨a0, vs, u, rfl, rfl, k1, by rw [← k2.length]; exact hz, h _ _ x1 x2 _ rfl⟩) (fun C ρ S => by rw [evE]) hc hl hst ha hb
theorem sd_popAt {ap : Pos} (hc : notCall a = true) (hl : (ap.endLine == pos.line) = true) (hst : notStar e = true) (ha : SdE p a ca) (hb : SdE p e cb) : SdE p (.Call (.Attribute a "pop" ap) [e] [] pos) (.popAt ca cb) :=
  sd_bm1 (f := popAtD) PySem.F.slot_list_pop PySem.F.type_list_pop (fun X => mt_popAt) (fun K μ H S x y v u Q hs rx ry h => by
    obtain ⟨i, ds, a0, vs, rfl, rfl, ei, ea, k1, k2, k3, h⟩ := Po.withL hs rx h
    cases y with
    | int j =>
      obtain ⟨⟨hz1, hz2⟩, h⟩ := Po.ite (show Po K μ H (if -(2 ^ 63) ≤ j ∧ j < 2 ^ 63 then may (seqIndex? j ds.length) fun k => may ds[k]? fun d => Res.ok d (S.set i (Ob.lst (ds.eraseIdx k))) else Res.bad) _ from h)
      obtain ⟨k, ek, h⟩ := h.may
      obtain ⟨d, ed, h⟩ := h.may
      obtain ⟨w, ew, rw_⟩ := k2.get ed
      obtain ⟨x1, x2⟩ := hs.put ea (k2.eraseIdx k) (Nat.le_trans (len_erase _ _) k3)
      exact ⟨a0, vs, j, k, w, rfl, by rw [show u = V.int j from ry], k1, hz1, hz2, by rw [← k2.length]; exact ek, ew, h _ _ x1 x2 _ (rw_.mono x1)⟩
    | _ => exact (show False from h).elim) (fun C ρ S => by rw [evE]) hc hl hst ha hb
theorem RpA.dropLast {K : Fg} {μ : List Addr} {H : Hp} {ds : List D} {vs : List V} (r : RpA K μ H ds vs) : RpA K μ H ds.dropLast vs.dropLast := by
  rw [List.dropLast_eq_take, List.dropLast_eq_take, r.length]
  exact r.take _
theorem sd_pop {ap : Pos} (hc : notCall a = true) (hl : (ap.endLine == pos.line) = true) (ha : SdE p a ca) : SdE p (.Call (.Attribute a "pop" ap) [] [] pos) (.pop ca) := fun X C g =>
  (pe_bm0 (name := "pop") PySem.F.plainAttrs_list PySem.F.slot_list_pop PySem.F.type_list_pop mt_pop (ha X C g) (plain_base hc _ _ _) hl).pq fun σ H Q ⟨μ, ρ, S, he, hs, h⟩ => by
    unfold evE at h
    refine ⟨μ, ρ, S, he, hs, h.bind.imp fun x S1 μ1 H1 _ e1 s1 h1 v rv => ?_⟩
    obtain ⟨i, ds, a0, vs, rfl, rfl, ei, ea, k1, k2, k3, h1⟩ := Po.withL s1 rv h1
    obtain ⟨d, ed, h1⟩ := h1.may
    obtain ⟨w, ew, rw_⟩ := k2.get ed
    obtain ⟨x1, x2⟩ := s1.put ea k2.dropLast (by rw [List.length_dropLast]; omega)
    exact ⟨ty_lst k1, a0, vs, w, rfl, rfl, k1, by rw [← k2.length]; exact ew, h1 _ _ x1 x2 _ (rw_.mono x1)⟩
theorem sd_ext {ap : Pos} (hc : notCall a = true) (hl : (ap.endLine == pos.line) = true) (hst : notStar e = true) (ha : SdE p a ca) (hb : SdR p e cr) : SdE p (.Call (.Attribute a "extend" ap) [e] [] pos) (.ext ca cr) := fun X C g =>
  (pe_bm (name := "extend") PySem.F.plainAttrs_list PySem.F.slot_list_extend PySem.F.type_list_extend mt_extend (ha X C g) (pa_cons (hb X C g) pa_nil (star_cons hst [] _)) (plain_base hc _ _ _) (few1 _ _ hst) hl (star_cons hst [] _) rfl).pq fun σ H Q ⟨μ, ρ, S, he, hs, h⟩ => by
    unfold evE at h
    refine ⟨μ, ρ, S, he, hs, h.bind.imp fun x S1 μ1 H1 _ e1 s1 h1 v rv => ?_⟩
    obtain ⟨i, ds, a0, vs, rfl, rfl, ei, ea, k1, k2, k3, h1⟩ := h1.withL s1 rv
    refine ⟨ty_lst k1, μ1, ρ, S1, he.mono e1, s1, h1.bind.imp fun y S2 μ2 H2 _ e2 s2 h2 w rw_ => ?_⟩
    obtain ⟨i', es, a', us, e3, e4, ej, eb, l1, l2, l3, h2⟩ := Po.withL s2 (rv.mono e2) h2
    cases e3
    cases e4
    obtain ⟨fs, ef, h2⟩ := h2.may
    obtain ⟨hz, h2⟩ := h2.ite
    obtain ⟨b, ws, rfl, m1, m2, m3⟩ := tr_rv s2 rw_ ef
    obtain ⟨x1, x2⟩ := s2.put eb (l2.append m2) (by rw [List.length_append]; exact hz)
    exact ⟨a0, b, us, ws, rfl, rfl, l1, m1, by rw [← l2.length, ← m2.length]; exact hz, h2 _ _ x1 x2 _ rfl⟩

theorem rp_strs {K : Fg} {μ : List Addr} {H : Hp} : ∀ {ds : List D} {vs : List V} {ys : List Str}, RpA K μ H ds vs → strsOf ds = some ys → vs = ys.map V.str
  | [], _, _, h, e => by
    cases e
    exact h
  | .str x :: ds, _, ys, ⟨v, r, e1, h1, h2⟩, e => by
    have e : (strsOf ds).map (x :: ·) = some ys := e
    cases e2 : strsOf ds with
    | none => rw [e2] at e; cases e
    | some zs =>
      rw [e2] at e
      cases e
      rw [e1, rp_strs h2 e2]
      cases h1
      rfl
  | .non :: _, _, _, _, e => nomatch e
  | .bl _ :: _, _, _, _, e => nomatch e
  | .int _ :: _, _, _, _, e => nomatch e
  | .tup _ :: _, _, _, _, e => nomatch e
  | .fix _ :: _, _, _, _, e => nomatch e
  | .ref _ :: _, _, _, _, e => nomatch e
/-- 'text'.join(r) -/
theorem sd_join {ap cp : Pos} {s : Str} {j : _} (hl : (ap.endLine == pos.line) = true) (hst : notStar e = true) (hb : SdR p e cr) : SdE p (.Call (.Attribute (.Constant (.str s) j cp) "join" ap) [e] [] pos) (.join s cr) := fun X C g =>
  (pe_join (o := .Constant (.str s) j cp) pe_str (hb X C g) (star_cons hst [] _) rfl hl).pq fun σ H Q ⟨μ, ρ, S, he, hs, h⟩ => by
    unfold evE at h
    refine ⟨⟨s, rfl⟩, μ, ρ, S, he, hs, h.bind.imp fun w S1 μ1 H1 _ e1 s1 h1 v rv => ?_⟩
    obtain ⟨ds, e2, h1⟩ := h1.may
    obtain ⟨ys, e3, h1⟩ := h1.may
    obtain ⟨z, h1⟩ := h1.ask
    obtain ⟨a, vs, rfl, q1, q2, _⟩ := sq_rv s1 rv e2
    have ev := rp_strs q2 e3
    subst ev
    exact ⟨s, a, ys, rfl, rfl, q1.imp id (fun z => z.1.sq), z, h1.at s1 _ rfl⟩

/-- t.index(i) -/
theorem sd_tix {ap : Pos} (hc : notCall a = true) (hl : (ap.endLine == pos.line) = true) (hst : notStar e = true) (ha : SdE p a ca) (hb : SdE p e cb) : SdE p (.Call (.Attribute a "index" ap) [e] [] pos) (.tix ca cb) := fun X C g =>
  (pe_tm (name := "index") PySem.F.slot_tuple_index PySem.F.type_tuple_index mt_tup_indexI (ha X C g) (pa_cons (hb X C g) pa_nil (star_cons hst [] _)) (plain_base hc _ _ _) (few1 _ _ hst) hl (star_cons hst [] _) rfl).pq fun σ H Q ⟨μ, ρ, S, he, hs, h⟩ => by
    unfold evE at h
    refine ⟨μ, ρ, S, he, hs, h.bind.imp fun x S1 μ1 H1 _ e1 s1 h1 v rv => ?_⟩
    cases x with
    | tup ds =>
      obtain ⟨a0, vs, rfl, k1, k2, k3⟩ := rv
      have h1 : Po X.K μ1 H1 ((evE C cb ρ S1).bind fun y S2 => tixD ds y S2) _ := h1
      refine ⟨⟨a0, vs, rfl, k1⟩, μ1, ρ, S1, he.mono e1, s1, h1.bind.imp fun y S2 μ2 H2 _ e2 s2 h2 w rw_ => ?_⟩
      cases y with
      | int z =>
        have h2 : Po X.K μ2 H2 (may (intsOf ds) fun ns => if z ∈ ns then Res.ok (D.int ((ns.idxOf z : Nat) : Int)) S2 else Res.bad) _ := h2
        obtain ⟨ns, en, h2⟩ := h2.may
        obtain ⟨hz, h2⟩ := h2.ite
        have ev := rp_ints k2 en
        subst ev
        refine ⟨a0, ns, z, ns.idxOf z, rfl, by rw [show w = V.int z from rw_], (e2.tup _ _ k1).sq, ?_, fun m hm e => ?_, h2.at s2 _ rfl⟩
        · rw [List.getElem?_eq_getElem (List.idxOf_lt_length_iff.mpr hz)]
          simp
        · have hm' : m < ns.length := (List.getElem?_eq_some_iff.mp e).1
          have := List.not_of_lt_findIdx (p := (· == z)) (xs := ns) hm
          rw [(List.getElem?_eq_some_iff.mp e).2] at this
          simp at this
      | _ => exact (show False from h2).elim
    | _ => exact (show False from h1).elim

/-! ### in, not in -/
theorem flat_rp {K : Fg} {μ : List Addr} {H : Hp} {x y : D} {v u : V} (rx : Rp K μ H x v) (f : flatD x = true) : flatV v = true := by
  cases x <;> first | (cases f; done) | (cases rx; rfl)
theorem eqF_rp {K : Fg} {μ : List Addr} {H : Hp} {x y : D} {v u : V} (rx : Rp K μ H x v) (ry : Rp K μ H y u) (fx : flatD x = true) (fy : flatD y = true) : eqV u v = eqF y x := by
  cases x <;> cases y <;> first | (cases fx; done) | (cases fy; done) | (cases rx; cases ry; rfl)
theorem flats_rp {K : Fg} {μ : List Addr} {H : Hp} : ∀ {ds : List D} {vs : List V}, RpA K μ H ds vs → ds.all flatD = true → vs.all flatV = true
  | [], _, h, _ => by rw [show _ = ([] : List V) from h]; rfl
  | d :: ds, _, ⟨v, r, e, h1, h2⟩, h => by
    rw [List.all_cons, Bool.and_eq_true] at h
    rw [e, List.all_cons, flat_rp (y := d) (u := v) h1 h.1, flats_rp h2 h.2]
    rfl
theorem anyF_rp {K : Fg} {μ : List Addr} {H : Hp} {x : D} {v : V} (rx : Rp K μ H x v) (fx : flatD x = true) : ∀ {ds : List D} {vs : List V}, RpA K μ H ds vs → ds.all flatD = true → inV v vs = ds.any fun y => eqF y x
  | [], _, h, _ => by rw [show _ = ([] : List V) from h]; rfl
  | d :: ds, _, ⟨w, r, e, h1, h2⟩, h => by
    rw [List.all_cons, Bool.and_eq_true] at h
    rw [e]
    show (eqV w v || inV v r) = _
    rw [List.any_cons, eqF_rp rx h1 fx h.1, anyF_rp rx fx h2 h.2]
def rIn2 (K : Fg) (neg : Bool) : R2 := fun x y H Q => rIn K neg x y H Q ∨ ∃ d ds, Dp K H x d ∧ Dp K H y (.list ds) ∧ SeqAt.shaped d = true ∧ SeqAt.shaped (.list ds) = true ∧ Q (.bl (if neg then !ds.any (fun z => PyData.eqv z d) else ds.any fun z => PyData.eqv z d)) H
theorem os_in {K : Fg} {μ : List Addr} {H : Hp} {S : Sto} {x : D} {r : RV} {v u : V} {Q : VK} {k : Bool} (neg : Bool) (hs : StOk K μ H S) (rx : Rp K μ H x v) (rr : RvR K μ H r u) (h : inD x r S = some k) (q : Q (.bl (if neg then !k else k)) H) : rIn2 K neg v u H Q := by
  unfold inD at h
  cases e1 : sqOf S r with
  | none => rw [e1] at h; cases h
  | some ds =>
    rw [e1] at h
    have h : (if (flatD x && ds.all flatD) = true then some (ds.any fun y => eqF y x) else (match lsOf S r with
      | some ds => (match toP S x, toPs S ds with
        | some p, some ps => if (SeqAt.shaped p && SeqAt.shaped (.list ps)) = true then some (ps.any fun q => PyData.eqv q p) else none
        | _, _ => none)
      | none => none)) = some k := h
    split at h
    · rename_i hf
      rw [Bool.and_eq_true] at hf
      cases h
      obtain ⟨a, vs, rfl, h1, h2, _⟩ := sq_rv hs rr e1
      refine .inl ⟨a, vs, rfl, sq_or h1, flat_rp (y := x) (u := v) rx hf.1, flats_rp h2 hf.2, ?_⟩
      rw [anyF_rp rx hf.1 h2 hf.2]
      exact q
    · cases e2 : lsOf S r with
      | none => rw [e2] at h; cases h
      | some es =>
        rw [e2] at h
        obtain ⟨a, vs, rfl, h1, h2, _⟩ := ls_rv hs rr e2
        have h : (match toP S x, toPs S es with
          | some p, some ps => if (SeqAt.shaped p && SeqAt.shaped (.list ps)) = true then some (ps.any fun q => PyData.eqv q p) else none
          | _, _ => none) = some k := h
        cases e3 : toP S x with
        | none => rw [e3] at h; cases h
        | some p1 =>
          cases e4 : toPs S es with
          | none => rw [e3, e4] at h; cases h
          | some ps =>
            rw [e3, e4] at h
            have h : (if (SeqAt.shaped p1 && SeqAt.shaped (.list ps)) = true then some (ps.any fun q => PyData.eqv q p1) else none) = some k := h
            split at h
            · rename_i hf
              rw [Bool.and_eq_true] at hf
              cases h
              exact .inr ⟨p1, ps, toP_dp hs rx e3, .lst h1 (toPs_dp hs h2 e4), hf.1, hf.2, q⟩
            · cases h
theorem sc_in (hm : behindInMarks .In b = false) (ha : SdE p a ca) (hb : SdR p b cr) : SdC p (.Compare a [.In] [b] pos) (.inr ca cr) := fun X C g => by
  have hu := g.un
  have ho : OpR X (compareOp .In) (rIn2 X.K false) := op_in_seq.or (op_inD (by omega))
  refine ⟨_, pe_cmpR ho (ha X C g) (hb X C g) hm, pt_cmpR ho (ha X C g) (hb X C g) hm, fun σ H Q ⟨μ, ρ, S, he, hs, h⟩ => ?_⟩
  unfold evE at h
  refine ⟨μ, ρ, S, he, hs, h.bind.imp fun x S1 μ1 H1 _ e1 s1 h1 v rv => ?_⟩
  refine ⟨μ1, ρ, S1, he.mono e1, s1, h1.bind.imp fun y S2 μ2 H2 _ e2 s2 h2 u ru => ?_⟩
  obtain ⟨k, ek, h2⟩ := h2.may
  exact os_in false s2 (rv.mono e2) ru ek (h2.at s2 _ rfl)
theorem sc_notIn (hm : behindInMarks .NotIn b = false) (ha : SdE p a ca) (hb : SdR p b cr) : SdC p (.Compare a [.NotIn] [b] pos) (.notInr ca cr) := fun X C g => by
  have hu := g.un
  have ho : OpR X (compareOp .NotIn) (rIn2 X.K true) := op_notIn_seq.or (op_notInD (by omega))
  refine ⟨_, pe_cmpR ho (ha X C g) (hb X C g) hm, pt_cmpR ho (ha X C g) (hb X C g) hm, fun σ H Q ⟨μ, ρ, S, he, hs, h⟩ => ?_⟩
  unfold evE at h
  refine ⟨μ, ρ, S, he, hs, h.bind.imp fun x S1 μ1 H1 _ e1 s1 h1 v rv => ?_⟩
  refine ⟨μ1, ρ, S1, he.mono e1, s1, h1.bind.imp fun y S2 μ2 H2 _ e2 s2 h2 u ru => ?_⟩
  obtain ⟨k, ek, h2⟩ := h2.may
  exact os_in true s2 (rv.mono e2) ru ek (h2.at s2 _ rfl)
theorem b_in : ∀ C ρ S d S', evE C (.inr ca cr) ρ S = .ok d S' → isB d = true := fun C ρ S d S' h => by
  unfold evE at h
  obtain ⟨x, S1, _, h⟩ := bind_ok h
  obtain ⟨y, S2, _, h⟩ := bind_ok h
  obtain ⟨k, _, h⟩ := may_ok h
  cases h; rfl
theorem b_notIn : ∀ C ρ S d S', evE C (.notInr ca cr) ρ S = .ok d S' → isB d = true := fun C ρ S d S' h => by
  unfold evE at h
  obtain ⟨x, S1, _, h⟩ := bind_ok h
  obtain ⟨y, S2, _, h⟩ := bind_ok h
  obtain ⟨k, _, h⟩ := may_ok h
  cases h; rfl
end
end PQ

/-! New lists; what is walked; comprehensions. -/
namespace PQ
open PySem PySem.Spec PyProof.Rows L2
section
variable {p : Pl} {a b c e : Expr} {ca cb cc : CE} {cr cr2 : CR} {pos q : Pos}
/-- one's own new list at l -/
theorem own_new {K : Fg} {μ : List Addr} {H : Hp} {S : Sto} {ds : List D} {vs : List V} {l : Addr} (s1 : StOk K μ H S) (r : RpA K μ H ds vs) (hl : H l = none) : l ∉ μ ∧ RpA K μ (upd H l (.lst vs)) ds vs := by
  refine ⟨fun m => ?_, r.mono (s1.fresh hl _)⟩
  obtain ⟨w, ew, _⟩ := s1.mem m
  rw [hl] at ew; cases ew
theorem sq_cat (ha : SdR p a cr) (hb : SdR p b cr2) : SdQ p (.BinOp a .Add b pos) (.cat cr cr2) := fun X C g =>
  (pe_op op_cat (ha X C g) (hb X C g)).pq fun σ H Q ⟨μ, ρ, S, he, hs, h⟩ => by
    unfold evQ at h
    refine ⟨μ, ρ, S, he, hs, h.bind.imp fun x S1 μ1 H1 _ e1 s1 h1 v rv => ?_⟩
    refine ⟨μ1, ρ, S1, he.mono e1, s1, h1.bind.imp fun y S2 μ2 H2 _ e2 s2 h2 u ru => ?_⟩
    obtain ⟨ds, ed, h2⟩ := h2.may
    obtain ⟨es, ee, h2⟩ := h2.may
    obtain ⟨z, h2⟩ := h2.ask
    obtain ⟨a, vs, rfl, k1, k2, k3⟩ := tr_rv s2 (rv.mono e2) ed
    obtain ⟨b, us, rfl, l1, l2, l3⟩ := tr_rv s2 ru ee
    refine ⟨a, b, vs, us, rfl, rfl, k1, l1, by rw [← k2.length, ← l2.length]; exact z, fun l hl => ?_⟩
    obtain ⟨n1, n2⟩ := own_new s2 (k2.append l2) hl
    exact h2 μ2 _ (s2.fresh hl _) (s2.freshOk hl _) l _ (e1.alive _ (e2.alive _ hl)) upd_same n1 n2 (by rw [List.length_append]; exact z)

/-! ### sorted -/
def rSortD (K : Fg) : List V → Hp → VK → Prop := fun vs H Q => ∃ (a : Addr) (xs : List V) (ps : List PyData), vs = [V.ref a] ∧ SqL K H a xs ∧ DpAll K H xs ps ∧ PySem.W.AllAlike ps ∧ PySem.W.Sortable ps ∧ (∀ p ∈ ps, p.depth ≤ 64) ∧ xs.length ≤ sizeLine ∧
  ∀ l, H l = none → Q (.ref l) (upd H l (.lst (((xs.zip ps).mergeSort (PySem.W.dataLe false (·.2))).map (·.1))))
theorem dpAll_zip {K : Fg} {H : Hp} : ∀ {xs : List V} {ps : List PyData}, DpAll K H xs ps → (xs.zip ps).map (·.2) = ps ∧ (xs.zip ps).map (·.1) = xs
  | _, _, .nil => ⟨rfl, rfl⟩
  | _, _, .cons h t => by
    obtain ⟨h1, h2⟩ := dpAll_zip t
    rw [List.zip_cons_cons, List.map_cons, List.map_cons, h1, h2]
    exact ⟨rfl, rfl⟩
theorem cr_sortD {X : Cx} (hu : X.A.units + 70 < cLine) : CallR X (.builtin "sorted") (rSortD X.K) := by
  intro pins s σ H vs us Q I r h
  obtain ⟨a, xs, ps, rfl, hs, hp, hal, hso, hdp, hz, q⟩ := h
  obtain ⟨its, rv, hl, _⟩ := I.list hs
  rw [Vals.ref1 r]
  obtain ⟨z2, z1⟩ := dpAll_zip hp
  have e1 : ∀ {xs : List V} {ps : List PyData} {its : List Value}, DpAll X.K H xs ps → Vals xs its → PySem.W.EachIs (fun (u : Value) (b : V × PyData) => RelV b.1 u) its (xs.zip ps) := by
    intro xs ps its h
    induction xs generalizing ps its with
    | nil => intro r; cases h; cases r; exact .nil
    | cons x xs ih => intro r; cases h with | cons h1 h2 => cases r with | cons r1 r2 => exact .cons r1 (ih h2 r2)
  have e2 : ∀ {xs : List V} {ps : List PyData} {its : List Value}, DpAll X.K H xs ps → Vals xs its → PySem.W.EachIs (fun (u : Value) (b : V × PyData) => ∃ as, Reads s.heap u b.2 as) its (xs.zip ps) := by
    intro xs ps its h
    induction xs generalizing ps its with
    | nil => intro r; cases h; cases r; exact .nil
    | cons x xs ih => intro r; cases h with | cons h1 h2 => cases r with | cons r1 r2 => exact .cons (Dp.reads I _ _ _ h1 r1) (ih h2 r2)
  have e3 : ∀ {out : List Value} {bs : List (V × PyData)}, PySem.W.EachIs (fun (u : Value) (b : V × PyData) => RelV b.1 u) out bs → Vals (bs.map (·.1)) out := by
    intro out bs h
    induction h with
    | nil => exact .nil
    | cons h _ ih => exact .cons h ih
  have hlen : (xs.zip ps).length = xs.length := by
    have := congrArg List.length z1
    rw [List.length_map] at this
    exact this
  refine PySem.W.sorted_data (vs := its) (bs := xs.zip ps) (enc := fun b : V × PyData => b.2) hl.isList (e1 hp rv) (e2 hp rv) (by rw [z2]; exact hal) (by rw [z2]; exact hso) (by rw [hlen]; exact hz) (fun b hb => ?_) fun out ol oe => ?_
  · have hb2 : b.2 ∈ ps := by rw [← z2]; exact List.mem_map_of_mem hb
    have := hdp b.2 hb2
    omega
  · obtain ⟨ep, he'⟩ := PyProof.Rows.sortedAll_at s.heap its out.toArray
    have lz : (((xs.zip ps).mergeSort (PySem.W.dataLe false (·.2))).map (·.1)).length ≤ sizeLine := by
      rw [List.length_map, List.length_mergeSort, hlen]
      exact hz
    exact ⟨.ref _, _, I.laid (t' := s.toks) (o := .lst (((xs.zip ps).mergeSort (PySem.W.dataLe false (·.2))).map (·.1))) (fun _ _ => PyProof.Rows.sortedAll_old) (Nat.le_succ _) ⟨lz, out, ep, e3 oe, he'⟩, rfl, q _ (I.hok.fresh (Nat.le_succ _))⟩
theorem toPs_map {S : Sto} : ∀ {ds : List D} {ps : List PyData}, toPs S ds = some ps → ds.map (fun d => (toP S d).getD .none) = ps
  | [], _, h => by cases h; rfl
  | d :: ds, ps, h => by
    have h : (match toPW (refP S 8) d, toPsW (refP S 8) ds with
      | some p, some ps => some (p :: ps)
      | _, _ => none) = some ps := h
    cases e1 : toPW (refP S 8) d with
    | none => rw [e1] at h; cases h
    | some p1 =>
      cases e2 : toPsW (refP S 8) ds with
      | none => rw [e1, e2] at h; cases h
      | some qs =>
        rw [e1, e2] at h
        cases h
        rw [List.map_cons, toPs_map (ds := ds) e2]
        show (toPW (refP S 8) d).getD .none :: qs = _
        rw [e1]
        rfl
theorem sort_rp {K : Fg} {μ : List Addr} {H : Hp} {S : Sto} {ds : List D} {vs : List V} {ps : List PyData} (r : RpA K μ H ds vs) (h : toPs S ds = some ps) :
    RpA K μ H (ds.mergeSort (PySem.W.dataLe false fun d => (toP S d).getD .none)) (((vs.zip ps).mergeSort (PySem.W.dataLe false (·.2))).map (·.1)) := by
  have hm := toPs_map h
  -- the pairs of a datum and its value
  have hz : ∀ {ds : List D} {vs : List V}, RpA K μ H ds vs → (ds.zip vs).map (·.1) = ds ∧ (ds.zip vs).map (·.2) = vs ∧ ∀ t ∈ ds.zip vs, Rp K μ H t.1 t.2 := by
    intro ds
    induction ds with
    | nil => intro vs r; rw [show vs = [] from r]; exact ⟨rfl, rfl, fun _ h => nomatch h⟩
    | cons d ds ih =>
      intro vs r
      obtain ⟨v, r', e, h1, h2⟩ := r
      subst e
      obtain ⟨i1, i2, i3⟩ := ih h2
      rw [List.zip_cons_cons, List.map_cons, List.map_cons, i1, i2]
      refine ⟨rfl, rfl, fun t ht => ?_⟩
      rcases List.mem_cons.mp ht with rfl | ht
      · exact h1
      · exact i3 t ht
  obtain ⟨z1, z2, z3⟩ := hz r
  have build : ∀ ts : List (D × V), (∀ t ∈ ts, Rp K μ H t.1 t.2) → RpA K μ H (ts.map (·.1)) (ts.map (·.2)) := by
    intro ts
    induction ts with
    | nil => intro _; exact rfl
    | cons t ts ih => intro h; exact .cons (h t List.mem_cons_self) (ih fun u hu => h u (List.mem_cons_of_mem _ hu))
  have l1 : ds.mergeSort (PySem.W.dataLe false fun d => (toP S d).getD .none) = ((ds.zip vs).mergeSort (PySem.W.dataLe false fun t : D × V => (toP S t.1).getD .none)).map (·.1) := by
    have q := List.map_mergeSort (r := PySem.W.dataLe false fun t : D × V => (toP S t.1).getD .none) (s := PySem.W.dataLe false fun d : D => (toP S d).getD .none) (f := fun t : D × V => t.1) (l := ds.zip vs) (fun a _ b _ => rfl)
    rw [z1] at q
    exact q.symm
  have l2 : (vs.zip ps) = (ds.zip vs).map fun t => (t.2, (toP S t.1).getD .none) := by
    rw [← hm]
    clear hm h z1 z2 z3 l1
    induction ds generalizing vs with
    | nil => rw [show vs = [] from r]; rfl
    | cons d ds ih =>
      obtain ⟨v, r', e, h1, h2⟩ := r
      subst e
      rw [List.map_cons, List.zip_cons_cons, List.zip_cons_cons, List.map_cons, ih h2]
  have l3 : (vs.zip ps).mergeSort (PySem.W.dataLe false (·.2)) = ((ds.zip vs).mergeSort (PySem.W.dataLe false fun t : D × V => (toP S t.1).getD .none)).map fun t => (t.2, (toP S t.1).getD .none) := by
    have q := List.map_mergeSort (r := PySem.W.dataLe false fun t : D × V => (toP S t.1).getD .none) (s := PySem.W.dataLe false fun t : V × PyData => t.2) (f := fun t : D × V => (t.2, (toP S t.1).getD .none)) (l := ds.zip vs) (fun a _ b _ => rfl)
    rw [l2]
    exact q.symm
  rw [l1, l3, List.map_map]
  exact build _ fun t ht => z3 t (List.mem_mergeSort.mp ht)
theorem sq_sorted (hb : ("sorted" : Str) ∈ p.B) (hg : p.sc.names.lookup ("sorted" : Str) = some .globalImplicit) (hst : notStar e = true) (ha : SdR p e cr) : SdQ p (.Call (.Name "sorted" q) [e] [] pos) (.sorted cr) := fun X C g =>
  (pe_callB (cr_sortD (by have := g.un; omega)) (gl_of g hg) (g.blt _ hb) (by decide +kernel) (pa_cons (ha X C g) pa_nil (star_cons hst [] _)) (by decide) (by decide) (star_cons hst [] _) rfl).pq fun σ H Q ⟨μ, ρ, S, he, hs, h⟩ => by
    unfold evQ at h
    refine ⟨μ, ρ, S, he, hs, h.bind.imp fun x S1 μ1 H1 _ e1 s1 h1 v rv => ?_⟩
    obtain ⟨ds, eds, h1⟩ := h1.may
    obtain ⟨a, vs, rfl, h2, h3, h4⟩ := ls_rv s1 rv eds
    unfold sortD at h1
    cases ep : toPs S1 ds with
    | none => rw [ep] at h1; exact h1.elim
    | some ps =>
      rw [ep] at h1
      obtain ⟨⟨z1, z2, z3⟩, h1⟩ := Po.ask h1
      refine ⟨a, vs, ps, rfl, h2, toPs_dp s1 h3 ep, z1, z2, z3, by rw [← h3.length]; exact h4, fun l hl => ?_⟩
      have hr := sort_rp h3 ep
      obtain ⟨n1, n2⟩ := own_new s1 hr hl
      exact h1 μ1 _ (s1.fresh hl _) (s1.freshOk hl _) l _ (e1.alive _ hl) upd_same n1 n2 (by rw [List.length_mergeSort]; exact h4)

/-! ### list(range(..)) -/
theorem rgD_rp {K : Fg} {μ : List Addr} {H : Hp} (i j : Int) : RpA K μ H (rgD i j) (rgV i j) := by
  unfold rgD rgV
  generalize (List.range (j - i).toNat) = l
  induction l with
  | nil => exact rfl
  | cons k l ih => exact .cons rfl ih
theorem rgD_len (i j : Int) : (rgD i j).length = (j - i).toNat := by unfold rgD; rw [List.length_map, List.length_range]
theorem sq_listRg1 {q2 pos2 : Pos} (hb : ("list" : Str) ∈ p.B) (hg : p.sc.names.lookup ("list" : Str) = some .globalImplicit) (hb2 : ("range" : Str) ∈ p.B) (hg2 : p.sc.names.lookup ("range" : Str) = some .globalImplicit) (hst : notStar a = true) (ha : SdE p a ca) :
    SdQ p (.Call (.Name "list" q) [.Call (.Name "range" q2) [a] [] pos2] [] pos) (.listRg (.lit (.int 0)) ca) := fun X C g =>
  (pe_listRg g.calm (gl_of g hg) (g.blt _ hb) (prg_1 (gl_of g hg2) (g.blt _ hb2) (ha X C g) (star_cons hst [] _)) rfl).pq fun σ H Q ⟨μ, ρ, S, he, hs, h⟩ => by
    have h0 : evE C (.lit (.int 0)) ρ S = Res.ok (D.int 0) S := by rw [evE]
    unfold evQ at h
    rw [h0] at h
    refine ⟨μ, ρ, S, he, hs, Po.imp (Po.bind (r := evE C ca ρ S) h) fun y S1 μ1 H1 _ e1 s1 h1 v rv => ?_⟩
    cases y with
    | int j =>
      obtain ⟨z, h1⟩ := Po.ask (show Po X.K μ1 H1 (ask (RgOk 0 j) (Res.ok (rgD 0 j) S1)) _ from h1)
      refine ⟨j, rv, z, fun l hl => ?_⟩
      obtain ⟨n1, n2⟩ := own_new s1 (rgD_rp 0 j) hl
      exact h1 μ1 _ (s1.fresh hl _) (s1.freshOk hl _) l _ (e1.alive _ hl) upd_same n1 n2 (by rw [rgD_len, sizeLine_eq]; have := z.2.2.2.2; omega)
    | _ => exact (show False from h1).elim
theorem sq_listRg2 {q2 pos2 : Pos} (hb : ("list" : Str) ∈ p.B) (hg : p.sc.names.lookup ("list" : Str) = some .globalImplicit) (hb2 : ("range" : Str) ∈ p.B) (hg2 : p.sc.names.lookup ("range" : Str) = some .globalImplicit) (hst : notStar a = true) (hst2 : notStar b = true) (ha : SdE p a ca) (hb' : SdE p b cb) :
    SdQ p (.Call (.Name "list" q) [.Call (.Name "range" q2) [a, b] [] pos2] [] pos) (.listRg ca cb) := fun X C g =>
  (pe_listRg g.calm (gl_of g hg) (g.blt _ hb) (prg_2 (gl_of g hg2) (g.blt _ hb2) (ha X C g) (hb' X C g) (star_cons hst [b] _) (star_cons hst2 [] _) (star_any _ _ (show [b].all notStar = true by rw [List.all_cons, hst2]; rfl))) rfl).pq fun σ H Q ⟨μ, ρ, S, he, hs, h⟩ => by
    unfold evQ at h
    refine ⟨μ, ρ, S, he, hs, h.bind.imp fun x S1 μ1 H1 _ e1 s1 h1 v rv => ?_⟩
    refine ⟨μ1, ρ, S1, he.mono e1, s1, h1.bind.imp fun y S2 μ2 H2 _ e2 s2 h2 u ru => ?_⟩
    cases x with
    | int i =>
      cases y with
      | int j =>
        obtain ⟨z, h2⟩ := Po.ask (show Po X.K μ2 H2 (ask (RgOk i j) (Res.ok (rgD i j) S2)) _ from h2)
        refine ⟨i, j, rv, ru, z, fun l hl => ?_⟩
        obtain ⟨n1, n2⟩ := own_new s2 (rgD_rp i j) hl
        exact h2 μ2 _ (s2.fresh hl _) (s2.freshOk hl _) l _ (e1.alive _ (e2.alive _ hl)) upd_same n1 n2 (by rw [rgD_len, sizeLine_eq]; have := z.2.2.2.2; omega)
      | _ => exact (show False from h2).elim
    | _ => exact (show False from h2).elim
end

/-! ### what is walked -/
/-- the walk of t's items, as long as nothing of the walked list is changed -/
def ItOk (K : Fg) (μ₀ : List Addr) (H₀ : Hp) (t : Itv) (J : It) : Prop := ∀ μ H S, Ext K μ₀ H₀ μ H → StOk K μ H S → t.still S → (∀ i, i < t.items.length → J.go i H ∧ ∀ x H', J.yld i H x H' → H' = H ∧ ∃ d, t.items[i]? = some d ∧ Rp K μ H d x) ∧ J.stop t.items.length H
def tI (K : Fg) (f : En → Sto → Res Itv) : TI := fun σ H R => ∃ μ ρ S, EnvOk K μ H ρ σ ∧ StOk K μ H S ∧ Po K μ H (f ρ S) fun t S' μ' H' => ∀ J, ItOk K μ' H' t J → R J H'
def SdI (p : Pl) (tg e : Expr) (c : CI) : Prop := ∀ X C, Good X p C → PI X tg e (tI X.K (evI C c))
/-- a list or a tuple, whichever comes -/
def iSeq (K : Fg) (tl : TE) : TI := fun σ H R => tl σ H fun x H1 => ∃ a, x = .ref a ∧ (((∃ xs, SqL K H1 a xs) ∧ R (Itl K a) H1) ∨ ((∃ xs, SqT K H1 a xs) ∧ R (Itt K a) H1))
/-- .. or a text -/
def iSeqS (K : Fg) (tl : TE) : TI := fun σ H R => tl σ H fun x H1 => (∃ a, x = .ref a ∧ (((∃ xs, SqL K H1 a xs) ∧ R (Itl K a) H1) ∨ ((∃ xs, SqT K H1 a xs) ∧ R (Itt K a) H1))) ∨ ∃ z, x = .str z ∧ R (Its z) H1
theorem pi_seqS {X : Cx} {tg l : Expr} {tl : TE} (hl : PE X l tl) : PI X tg l (iSeqS X.K tl) := by
  refine ⟨fun pins s σ H R I h => ?_⟩
  refine thn (hl.run pins s σ H _ I h) fun v s1 ⟨x, H1, I1, r1, q1⟩ => ?_
  rcases q1 with ⟨a, e, q⟩ | ⟨z, e, q⟩
  · subst e
    cases r1
    rcases q with ⟨⟨xs, hq⟩, q⟩ | ⟨⟨xs, hq⟩, q⟩
    · obtain ⟨its, rv, p, hz⟩ := I1.list hq
      refine wpAny_pyIter_list p.isList ?_
      refine ⟨s1.heap.objs.size, [s1.heap.objs.size], _, _, H1, rfl, I1.kept (t' := s1.toks) fun b o e => Heap.get?_push_of_some _ e, turn_list a _, ⟨_, Heap.get?_push_size _ rfl, rfl, rfl⟩, fun b hb => ?_, q⟩
      have e : b = s1.heap.objs.size := by simpa using hb
      subst e
      exact I1.fpOk (Nat.le_refl _) (I1.hok.fresh (Nat.le_refl _))
    · obtain ⟨its, rv, p, hz⟩ := I1.tuple hq
      refine wpAny_pyIter_tuple (show s1.heap.IsTuple a its.toArray from p) ?_
      refine ⟨s1.heap.objs.size, [s1.heap.objs.size], _, _, H1, rfl, I1.kept (t' := s1.toks) fun b o e => Heap.get?_push_of_some _ e, turn_tuple a _, ⟨_, Heap.get?_push_size _ rfl, rfl, rfl⟩, fun b hb => ?_, q⟩
      have e : b = s1.heap.objs.size := by simpa using hb
      subst e
      exact I1.fpOk (Nat.le_refl _) (I1.hok.fresh (Nat.le_refl _))
  · subst e
    obtain ⟨t, rfl⟩ := r1
    cases ha : z.cps.all (· < 128)
    · exact wpAny_pyIter_wide ha (pi_one (tk := s1.toks) I1 _ (turn_str _ z t "str_iterator" (.inr rfl)) ⟨_, Heap.get?_push_size _ rfl, rfl, rfl⟩ q)
    · exact wpAny_pyIter_ascii ha (pi_one (tk := s1.toks) I1 _ (turn_str _ z t "str_ascii_iterator" (.inl rfl)) ⟨_, Heap.get?_push_size _ rfl, rfl, rfl⟩ q)
theorem its_ok {K : Fg} {μ : List Addr} {H : Hp} {z : Str} : (∀ i, i < (lettersD z).length → (Its z).go i H ∧ ∀ x H', (Its z).yld i H x H' → H' = H ∧ ∃ d, (lettersD z)[i]? = some d ∧ Rp K μ H d x) ∧ (Its z).stop (lettersD z).length H := by
  have hl : (lettersD z).length = z.cps.size := by
    unfold lettersD
    rw [List.length_map, Array.length_toList]
  refine ⟨fun i hi => ⟨by show i < z.cps.size; omega, fun x H' y => ?_⟩, by show z.cps.size ≤ _; omega⟩
  obtain ⟨e, c, ec, rfl⟩ := y
  refine ⟨e, .str ⟨#[c]⟩, ?_, rfl⟩
  unfold lettersD
  rw [List.getElem?_map, Array.getElem?_toList, ec]
  rfl
theorem pi_seq {X : Cx} {tg l : Expr} {tl : TE} (hl : PE X l tl) : PI X tg l (iSeq X.K tl) := by
  refine ⟨fun pins s σ H R I h => ?_⟩
  refine thn (hl.run pins s σ H _ I h) fun v s1 ⟨x, H1, I1, r1, q1⟩ => ?_
  obtain ⟨a, e, q⟩ := q1
  subst e
  cases r1
  rcases q with ⟨⟨xs, hq⟩, q⟩ | ⟨⟨xs, hq⟩, q⟩
  · obtain ⟨its, rv, p, hz⟩ := I1.list hq
    refine wpAny_pyIter_list p.isList ?_
    refine ⟨s1.heap.objs.size, [s1.heap.objs.size], _, _, H1, rfl, I1.kept (t' := s1.toks) fun b o e => Heap.get?_push_of_some _ e, turn_list a _, ⟨_, Heap.get?_push_size _ rfl, rfl, rfl⟩, fun b hb => ?_, q⟩
    have e : b = s1.heap.objs.size := by simpa using hb
    subst e
    exact I1.fpOk (Nat.le_refl _) (I1.hok.fresh (Nat.le_refl _))
  · obtain ⟨its, rv, p, hz⟩ := I1.tuple hq
    refine wpAny_pyIter_tuple (show s1.heap.IsTuple a its.toArray from p) ?_
    refine ⟨s1.heap.objs.size, [s1.heap.objs.size], _, _, H1, rfl, I1.kept (t' := s1.toks) fun b o e => Heap.get?_push_of_some _ e, turn_tuple a _, ⟨_, Heap.get?_push_size _ rfl, rfl, rfl⟩, fun b hb => ?_, q⟩
    have e : b = s1.heap.objs.size := by simpa using hb
    subst e
    exact I1.fpOk (Nat.le_refl _) (I1.hok.fresh (Nat.le_refl _))
theorem Ext.own {K : Fg} {μ μ' : List Addr} {H H' : Hp} (e : Ext K μ H μ' H') {a : Addr} {vs : List V} (h : H a = some (.lst vs)) (n : a ∉ μ) : SqL K H' a vs := .of (e.fr a _ h n)
section
variable {p : Pl} {a b e tg : Expr} {ca cb : CE} {cr : CR} {pos q : Pos}
theorem itl_ok {K : Fg} {μ : List Addr} {H : Hp} {a : Addr} {vs : List V} {ds : List D} (h : SqL K H a vs) (r : RpA K μ H ds vs) : (∀ i, i < ds.length → (Itl K a).go i H ∧ ∀ x H', (Itl K a).yld i H x H' → H' = H ∧ ∃ d, ds[i]? = some d ∧ Rp K μ H d x) ∧ (Itl K a).stop ds.length H := by
  have hl := r.length
  refine ⟨fun i hi => ⟨⟨vs, vs[i], h, List.getElem?_eq_getElem (by omega)⟩, fun x H' y => ⟨y.1, r.getV (y.2 vs h)⟩⟩, vs, h, by omega⟩
theorem itt_ok {K : Fg} {μ : List Addr} {H : Hp} {a : Addr} {vs : List V} {ds : List D} (h : SqT K H a vs) (r : RpA K μ H ds vs) : (∀ i, i < ds.length → (Itt K a).go i H ∧ ∀ x H', (Itt K a).yld i H x H' → H' = H ∧ ∃ d, ds[i]? = some d ∧ Rp K μ H d x) ∧ (Itt K a).stop ds.length H := by
  have hl := r.length
  refine ⟨fun i hi => ⟨⟨vs, vs[i], h, List.getElem?_eq_getElem (by omega)⟩, fun x H' y => ⟨y.1, r.getV (y.2 vs h)⟩⟩, vs, h, by omega⟩
theorem si_r (ha : SdR p e cr) : SdI p tg e (.r cr) := fun X C g => by
  refine ⟨fun pins s σ H R I h => (pi_seqS (ha X C g)).run pins s σ H R I ?_⟩
  obtain ⟨μ, ρ, S, he, hs, h⟩ := h
  unfold evI at h
  refine ⟨μ, ρ, S, he, hs, h.bind.imp fun r S1 μ1 H1 _ e1 s1 h1 v rv => ?_⟩
  obtain ⟨t, et, h1⟩ := h1.may
  have h1 := h1.at s1
  cases r with
  | own ds =>
    cases et
    obtain ⟨a, vs, rfl, k1, k2, k3, _⟩ := rv
    exact .inl ⟨a, rfl, .inl ⟨⟨vs, .of k1⟩, h1 _ fun μ H S x _ _ => itl_ok (x.own k1 k2) (k3.mono x)⟩⟩
  | val d =>
    cases d with
    | str z =>
      cases et
      exact .inr ⟨z, rv, h1 _ fun μ H S x _ _ => its_ok⟩
    | tup ds =>
      cases et
      obtain ⟨a, vs, rfl, k1, k2, _⟩ := rv
      exact .inl ⟨a, rfl, .inr ⟨⟨vs, k1.sq⟩, h1 _ fun μ H S x _ _ => itt_ok (x.tup _ _ k1).sq (k2.mono x)⟩⟩
    | fix ds =>
      cases et
      obtain ⟨a, vs, rfl, k1, k2, _⟩ := rv
      exact .inl ⟨a, rfl, .inl ⟨⟨vs, k1.sq⟩, h1 _ fun μ H S x _ _ => itl_ok (x.fix _ _ k1).sq (k2.mono x)⟩⟩
    | ref i =>
      have et : (sqOf S1 (.val (.ref i))).map (fun ds => (⟨ds, some i⟩ : Itv)) = some t := et
      cases es : sqOf S1 (.val (.ref i)) with
      | none => rw [es] at et; cases et
      | some ds =>
        rw [es] at et
        cases et
        obtain ⟨a, rfl, ea⟩ := rv
        obtain ⟨a', vs, e', k1, k2, _⟩ := sq_rv (r := .val (.ref i)) s1 ⟨a, rfl, ea⟩ es
        cases e'
        have k1 : SqL X.K H1 a vs := k1.elim id fun z => by cases z.2
        refine .inl ⟨a, rfl, .inl ⟨⟨vs, k1⟩, h1 _ fun μ H S x st sl => ?_⟩⟩
        obtain ⟨us, u1, u2, _⟩ := st.lst (show S[i]? = some (.lst ds) from sl) (x.get ea)
        exact itl_ok (SqL.of u1) u2
    | _ => cases et
theorem itr_ok {K : Fg} {μ : List Addr} {H : Hp} (i j : Int) : (∀ k, k < (rgD i j).length → (Itr i (j - i).toNat).go k H ∧ ∀ x H', (Itr i (j - i).toNat).yld k H x H' → H' = H ∧ ∃ d, (rgD i j)[k]? = some d ∧ Rp K μ H d x) ∧ (Itr i (j - i).toNat).stop (rgD i j).length H := by
  rw [rgD_len]
  refine ⟨fun k hk => ⟨hk, fun x H' y => ⟨y.1, .int (i + (k : Nat)), ?_, y.2⟩⟩, Nat.le_refl _⟩
  unfold rgD
  rw [List.getElem?_map, List.getElem?_range hk]
  rfl
theorem si_rg1 {pos2 : Pos} (hb : ("range" : Str) ∈ p.B) (hg : p.sc.names.lookup ("range" : Str) = some .globalImplicit) (hst : notStar a = true) (ha : SdE p a ca) : SdI p tg (.Call (.Name "range" q) [a] [] pos) (.rg (.lit (.int 0)) ca) := fun X C g => by
  refine ⟨fun pins s σ H R I h => (pi_range1 (gl_of g hg) (g.blt _ hb) (pa_cons (ha X C g) pa_nil (star_cons hst [] _)) (star_cons hst [] _)).run pins s σ H R I ?_⟩
  obtain ⟨μ, ρ, S, he, hs, h⟩ := h
  have h0 : evE C (.lit (.int 0)) ρ S = Res.ok (D.int 0) S := by rw [evE]
  unfold evI at h
  rw [h0] at h
  refine ⟨μ, ρ, S, he, hs, Po.imp (Po.bind (r := evE C ca ρ S) h) fun y S1 μ1 H1 _ e1 s1 h1 v rv => ?_⟩
  cases y with
  | int j =>
    obtain ⟨z, h1⟩ := Po.ask (show Po X.K μ1 H1 (ask (bd62 0 ∧ bd62 j) (Res.ok (⟨rgD 0 j, none⟩ : Itv) S1)) _ from h1)
    refine ⟨j, by rw [show v = V.int j from rv], z.2.1, z.2.2, ?_⟩
    have k := h1.at s1 (Itr 0 (j - 0).toNat) fun μ H S _ _ _ => itr_ok 0 j
    rw [Int.sub_zero] at k
    exact k
  | _ => exact (show False from h1).elim
theorem si_rg2 {pos2 : Pos} (hb : ("range" : Str) ∈ p.B) (hg : p.sc.names.lookup ("range" : Str) = some .globalImplicit) (hst : notStar a = true) (hst2 : notStar b = true) (ha : SdE p a ca) (hb' : SdE p b cb) : SdI p tg (.Call (.Name "range" q) [a, b] [] pos) (.rg ca cb) := fun X C g => by
  refine ⟨fun pins s σ H R I h => (pi_range2 (gl_of g hg) (g.blt _ hb) (pa_cons (ha X C g) (pa_cons (hb' X C g) pa_nil (star_cons hst2 [] _)) (star_cons hst [b] _)) (by rw [star_cons hst, star_cons hst2]; rfl) (star_cons hst2 [] _)).run pins s σ H R I ?_⟩
  obtain ⟨μ, ρ, S, he, hs, h⟩ := h
  unfold evI at h
  refine ⟨μ, ρ, S, he, hs, h.bind.imp fun x S1 μ1 H1 _ e1 s1 h1 v rv => ?_⟩
  refine ⟨μ1, ρ, S1, he.mono e1, s1, h1.bind.imp fun y S2 μ2 H2 _ e2 s2 h2 u ru => ?_⟩
  cases x with
  | int i =>
    cases y with
    | int j =>
      obtain ⟨z, h2⟩ := Po.ask (show Po X.K μ2 H2 (ask (bd62 i ∧ bd62 j) (Res.ok (⟨rgD i j, none⟩ : Itv) S2)) _ from h2)
      exact ⟨i, j, by rw [show v = V.int i from rv, show u = V.int j from ru], ⟨z.1.1, z.1.2, z.2.1, z.2.2⟩, h2.at s2 _ fun μ H S _ _ _ => itr_ok i j⟩
    | _ => exact (show False from h2).elim
  | _ => exact (show False from h2).elim
end
end PQ

/-! Targets, comprehensions. -/
namespace PQ
open PySem PySem.Spec PyProof.Rows L2
/-! ### targets -/
/-- σ' is σ with some of the slots `is` stored -/
inductive SetsIn (is : List Nat) : Slots → Slots → Prop
  | refl (σ : Slots) : SetsIn is σ σ
  | step {σ σ' : Slots} {i : Nat} {v : V} : i ∈ is → SetsIn is (σ.set i (some v)) σ' → SetsIn is σ σ'
theorem SetsIn.mono {is js : List Nat} (h : ∀ i, i ∈ is → i ∈ js) : ∀ {σ σ' : Slots}, SetsIn is σ σ' → SetsIn js σ σ'
  | _, _, .refl σ => .refl σ
  | _, _, .step m t => .step (h _ m) (SetsIn.mono h t)
theorem wipe_set {i : Nat} {o : Option V} : ∀ {vs : List Nat} {σ : Slots}, i ∈ vs → L2.wipe (σ.set i o) vs = L2.wipe σ vs
  | v :: vs, σ, h => by
    unfold L2.wipe
    by_cases hv : i ∈ vs
    · rw [wipe_set hv]
    · have e : i = v := by
        rcases List.mem_cons.mp h with e | h
        · exact e
        · exact absurd h hv
      subst e
      -- i is stored last, whatever stood there
      have key : ∀ (ws : List Nat) (σ : Slots), L2.wipe (σ.set i o) ws = (L2.wipe σ ws).set i (if i ∈ ws then none else o) ∨ (L2.wipe (σ.set i o) ws).set i none = (L2.wipe σ ws).set i none := by
        intro ws
        induction ws with
        | nil => intro σ; right; unfold L2.wipe; rw [List.set_set]
        | cons w ws ih =>
          intro σ
          right
          unfold L2.wipe
          have ih' : (L2.wipe (σ.set i o) ws).set i none = (L2.wipe σ ws).set i none := by
            rcases ih σ with h | h
            · rw [h, List.set_set]
            · exact h
          by_cases hw : w = i
          · subst hw; rw [List.set_set, List.set_set]; exact ih'
          · rw [List.set_comm _ _ hw, List.set_comm _ _ hw, ih']
      rcases key vs σ with h | h
      · rw [h, List.set_set]
      · exact h
theorem SetsIn.wipe {is : List Nat} : ∀ {σ σ' : Slots}, SetsIn is σ σ' → L2.wipe σ' is = L2.wipe σ is
  | _, _, .refl _ => rfl
  | _, _, .step m t => by rw [SetsIn.wipe t, wipe_set m]
theorem wipe_wipe : ∀ (vs : List Nat) (σ : Slots), (∀ us : List Nat, (∀ u, u ∈ vs → u ∈ us) → L2.wipe (L2.wipe σ vs) us = L2.wipe σ us)
  | [], σ, us, _ => rfl
  | v :: vs, σ, us, h => by
    show L2.wipe ((L2.wipe σ vs).set v none) us = _
    rw [wipe_set (h v List.mem_cons_self)]
    exact wipe_wipe vs σ us fun u hu => h u (List.mem_cons_of_mem _ hu)
def CN.slots : CN → List Nat
  | .nm i => [i]
  | .tup is => is
/-- a target takes a value -/
def tN (K : Fg) (g : CN) : TG := fun v σ H Q => ∃ μ ρ S d ρ', EnvOk K μ H ρ σ ∧ StOk K μ H S ∧ Rp K μ H d v ∧ bindN g d ρ S = some ρ' ∧ ∀ σ', EnvOk K μ H ρ' σ' → SetsIn g.slots σ σ' → Q σ' H
def SdN (p : Pl) (tg : Expr) (g : CN) : Prop := ∀ X C, Good X p C → X.fn = (fun _ => true) ∨ (∀ i ∈ g.slots, ∀ x, p.N[i]? = some x → p.sc.names.lookup x = some .local ∨ X.fn x = true) → PG X tg (tN X.K g)
end PQ
namespace L2
open PySem PySem.Spec PyProof.Rows
theorem PG.pq {X : Cx} {e : Expr} {t t' : TG} (h : PG X e t) (q : ∀ v σ H Q, t' v σ H Q → t v σ H Q) : PG X e t' := ⟨fun pins s σ H v u Q I r hw => h.run pins s σ H v u Q I r (q v σ H Q hw)⟩
theorem PGs.pq {X : Cx} {e : List Expr} {t t' : TGs} (h : PGs X e t) (q : ∀ v σ H Q, t' v σ H Q → t v σ H Q) : PGs X e t' := ⟨fun pins s σ H v u Q I r hw => h.run pins s σ H v u Q I r (q v σ H Q hw)⟩
theorem PS.pq {X : Cx} {e : Stmt} {t t' : TS} (h : PS X e t) (q : ∀ D σ H, t' D σ H → t D σ H) : PS X e t' := ⟨fun pins s σ H D I hw => h.run pins s σ H D I (q D σ H hw)⟩
theorem PSs.pq {X : Cx} {e : List Stmt} {t t' : TS} (h : PSs X e t) (q : ∀ D σ H, t' D σ H → t D σ H) : PSs X e t' := ⟨fun pins s σ H D I hw => h.run pins s σ H D I (q D σ H hw)⟩
/-- an unpacked tuple or list -/
theorem pg_or {X : Cx} {e : Expr} {t u : TG} (h : PG X e t) (h' : PG X e u) : PG X e (fun v σ H Q => t v σ H Q ∨ u v σ H Q) :=
  ⟨fun pins s σ H v w Q I r hw => hw.elim (h.run pins s σ H v w Q I r) (h'.run pins s σ H v w Q I r)⟩
end L2
namespace PQ
open PySem PySem.Spec PyProof.Rows L2
section
variable {p : Pl} {pos q : Pos}
/-- a name's place, where it can be stored -/
def NameAt (p : Pl) (x : Str) (i : Nat) : Prop := p.N[i]? = some x ∧ Loc p.sc x
theorem sn_nm {x : Str} {i : Nat} (h : NameAt p x i) : SdN p (.Name x pos) (.nm i) := fun X C g hf => by
  have hl : X.fn x = true ∨ X.env.scope.names.lookup x = some .local := by
    rcases hf with hf | hf
    · rw [hf]; exact .inl rfl
    · rw [g.sc]; exact (hf i (List.mem_singleton.mpr rfl) x h.1).symm
  refine (pg_name (i := i) g.nd (by rw [g.N]; exact h.1) (by rw [g.sc]; exact h.2) hl).pq fun v σ H Q ⟨μ, ρ, S, d, ρ', he, hs, r, e, k⟩ => ?_
  cases e
  exact k _ (he.set r i) (.step (List.mem_singleton.mpr rfl) (.refl _))
inductive NamesAt (p : Pl) : List Expr → List Nat → Prop
  | nil : NamesAt p [] []
  | cons {x : Str} {i : Nat} {q : Pos} {es : List Expr} {is : List Nat} : NameAt p x i → NamesAt p es is → NamesAt p (.Name x q :: es) (i :: is)
def tNs (K : Fg) (is : List Nat) : TGs := fun vs σ H Q => ∃ μ ρ ds ρ', EnvOk K μ H ρ σ ∧ RpA K μ H ds vs ∧ setAll is ds ρ = some ρ' ∧ ∀ σ', EnvOk K μ H ρ' σ' → SetsIn is σ σ' → Q σ' H
theorem sn_all {es : List Expr} {is : List Nat} (h : NamesAt p es is) {X : Cx} {C : Orc} (g : Good X p C) (hf : X.fn = (fun _ => true) ∨ (∀ i ∈ is, ∀ x, p.N[i]? = some x → p.sc.names.lookup x = some .local ∨ X.fn x = true)) : PGs X es (tNs X.K is) := by
  induction h with
  | nil =>
    refine pgs_nil.pq fun vs σ H Q ⟨μ, ρ, ds, ρ', he, r, e, k⟩ => ?_
    cases ds with
    | nil => cases e; exact ⟨r, k _ he (.refl _)⟩
    | cons d ds => cases e
  | @cons x i q es is hx _ ih =>
    have hl : X.fn x = true ∨ X.env.scope.names.lookup x = some .local := by
      rcases hf with hf | hf
      · rw [hf]; exact .inl rfl
      · rw [g.sc]; exact (hf i List.mem_cons_self x hx.1).symm
    have ih := ih (hf.imp id fun hf j hj => hf j (List.mem_cons_of_mem _ hj))
    refine (pgs_cons (pg_name (i := i) g.nd (by rw [g.N]; exact hx.1) (by rw [g.sc]; exact hx.2) hl) ih rfl).pq fun vs σ H Q ⟨μ, ρ, ds, ρ', he, r, e, k⟩ => ?_
    cases ds with
    | nil => cases e
    | cons d ds =>
      obtain ⟨v, r', e1, h1, h2⟩ := r
      subst e1
      exact ⟨v, r', rfl, μ, ρ.set i (some d), ds, ρ', he.set h1 i, h2, e, fun σ' he' hs' => k σ' he' (.step List.mem_cons_self (hs'.mono fun j hj => List.mem_cons_of_mem _ hj))⟩
theorem setAll_len : ∀ {is : List Nat} {ds : List D} {ρ ρ' : En}, setAll is ds ρ = some ρ' → ds.length = is.length
  | [], [], _, _, _ => rfl
  | [], _ :: _, _, _, h => by cases h
  | _ :: _, [], _, _, h => by cases h
  | i :: is, d :: ds, ρ, ρ', h => by
    have h : setAll is ds (ρ.set i (some d)) = some ρ' := h
    rw [List.length_cons, List.length_cons, setAll_len h]
theorem names_each {es : List Expr} {is : List Nat} (h : NamesAt p es is) (env : Env) : (assignEach es env).length = is.length ∧ (assignEach es env).findIdx? (·.1) = none := by
  induction h with
  | nil => exact ⟨rfl, rfl⟩
  | @cons x i q es is hx _ ih =>
    have e : assignEach (.Name x q :: es) env = (false, assign (.Name x q) env) :: assignEach es env := rfl
    rw [e]
    refine ⟨by rw [List.length_cons, List.length_cons, ih.1], ?_⟩
    rw [List.findIdx?_cons]
    show (if (false : Bool) = true then some 0 else Option.map (fun i => i + 1) (List.findIdx? (fun x => x.1) (assignEach es env))) = none
    rw [if_neg Bool.false_ne_true, ih.2]
    rfl
theorem sn_tup {es : List Expr} {is : List Nat} {k : Nat} (h : NamesAt p es is) : SdN p (.Tuple es k pos) (.tup is) := fun X C g hf => by
  have hs := sn_all h g hf
  obtain ⟨n1, n2⟩ := names_each h X.env
  refine (pg_or (pg_tup (n := is.length) g.calm hs n1 n2) (pg_unl (n := is.length) g.calm hs n1 n2)).pq fun v σ H Q ⟨μ, ρ, S, d, ρ', he, hs, r, e, k⟩ => ?_
  have e : (sqOf S (.val d)).bind (fun ds => setAll is ds ρ) = some ρ' := e
  cases es : sqOf S (.val d) with
  | none => rw [es] at e; cases e
  | some ds =>
    rw [es] at e
    have e : setAll is ds ρ = some ρ' := e
    obtain ⟨a, vs, rfl, h1, h2, _⟩ := sq_rv (r := .val d) hs r es
    have hl : vs.length = is.length := h2.length.symm.trans (setAll_len e)
    rcases h1 with h1 | ⟨h1, _⟩
    · exact .inr ⟨a, vs, rfl, h1, hl, μ, ρ, ds, ρ', he, h2, e, k⟩
    · exact .inl ⟨a, vs, rfl, h1.sq, hl, μ, ρ, ds, ρ', he, h2, e, k⟩
end

/-! ### comprehensions -/
theorem Good.blk {X : Cx} {p : Pl} {C : Orc} (g : Good X p C) (s : Shared) (H : Hp) (scope : Scope) (cl : List (Str × Addr)) (c : Addr) (fp : List Addr) : Good (X.blk s H scope (compEnvC scope cl c X.env) fp) { p with sc := relS scope p.sc } C :=
  ⟨g.calm, g.nd, g.un, PassesOwn.never, g.N, by show relS scope X.env.scope = _; rw [g.sc], g.blt, g.glb, g.fn⟩
section
variable {K : Fg} {μ μ' μ1 : List Addr} {H H' H1 : Hp} {S : Sto}
/-- one's own list is changed -/
theorem own_le {D : Addr} {vs us : List V} (h : H D = some (.lst vs)) : Le K μ H μ (upd H D (.lst us)) := by
  refine ⟨fun _ _ h => h, fun a xs q => ?_, fun a xs q => ?_⟩
  · rcases q with ⟨o, q, c1, c2⟩ | q
    · exact .inl ⟨o, by rw [upd_ne (ne_of q h (by intro z; cases z))]; exact q, c1, c2⟩
    · exact .inr q
  · rcases q with ⟨o, q⟩ | q
    · exact .inl ⟨o, by rw [upd_ne (ne_of q h (by intro z; cases z))]; exact q⟩
    · exact .inr q
theorem own_ext {D : Addr} {o : HO} (e : Ext K μ1 H1 μ H) (h : H1 D = none) (q : Le K μ H μ (upd H D o)) : Ext K μ1 H1 μ (upd H D o) := by
  refine ⟨e.pre, fun a z => ?_, fun a u z m => ?_, fun a xs z => q.tup _ _ (e.tup _ _ z), fun a xs z => q.fix _ _ (e.fix _ _ z)⟩
  · by_cases ha : a = D
    · rw [ha]; exact h
    · rw [upd_ne ha] at z; exact e.alive a z
  · rw [upd_ne (ne_of_none z h)]
    exact e.fr a u z m
theorem own_st {D : Addr} {vs us : List V} (hs : StOk K μ H S) (h : H D = some (.lst vs)) (n : D ∉ μ) : StOk K μ (upd H D (.lst us)) S :=
  ⟨hs.len, hs.nd, fun i o a e1 e2 => (hs.ob i o a e1 e2).le (own_le h) (upd_ne fun z => n (by rw [← z]; exact List.mem_of_getElem? e2))⟩
end
theorem Po.map {α β : Type} {K : Fg} {μ : List Addr} {H : Hp} {r : Res α} {g : α → β} {P : β → Sto → List Addr → Hp → Prop} (h : Po K μ H (r.bind fun a S' => .ok (g a) S') P) : Po K μ H r fun a S' μ' H' => P (g a) S' μ' H' := by
  cases r with
  | ok a S' => exact h
  | exc c fs S' => exact h
  | bad => exact h
theorem loopQ_len {C : Sto → Prop} {f : D → Sto → Res (Option D)} : ∀ {ds : List D} {S : Sto} {r : List D} {S' : Sto}, loopQ C f ds S = .ok r S' → r.length ≤ ds.length
  | [], S, r, S', h => by
    unfold loopQ PQ.ask at h
    split at h
    · cases h; exact Nat.le_refl _
    · cases h
  | d :: ds, S, r, S', h => by
    unfold loopQ PQ.ask at h
    split at h
    · obtain ⟨o, S1, _, h⟩ := bind_ok h
      obtain ⟨r', S2, e2, h⟩ := bind_ok h
      have := loopQ_len e2
      cases h
      cases o with
      | none => exact Nat.le_succ_of_le this
      | some x => exact Nat.succ_le_succ this
    · cases h
/-- a comprehension's loop; tt, te: its test, its element, by what they say -/
theorem comp_imp {K : Fg} {own : List Nat} {g : CN} {fi : En → Sto → Res Itv} {tt : TT} {te : TE} {body : En → Sto → Res (Option D)} {σ : Slots} {H : Hp} {Q : VK}
    (hsub : ∀ i, i ∈ g.slots → i ∈ own)
    (hb : ∀ (σ2 : Slots) (H2 : Hp) (μ : List Addr) (ρ : En) (S : Sto) (Dn : Addr) (acc : List V) (R : V → Hp → Prop) (R0 : Hp → Prop), EnvOk K μ H2 ρ σ2 → StOk K μ H2 S →
      Po K μ H2 (body ρ S) (fun o _ μ' H' => match o with | none => R0 H' | some x => ∀ v, Rp K μ' H' x v → R v H') → tt σ2 H2 fun b H3 => if b = true then te σ2 H3 R else R0 H3)
    (h : tQ K (fun ρ S => (fi ρ S).bind fun t S1 => ask (t.items.length ≤ sizeLine) (loopQ t.still (fun d S2 => may (bindN g d (wipeE ρ own) S2) fun ρ' => body ρ' S2) t.items S1)) σ H Q) :
    tLc (tI K fi) (tN K g) tt te own σ H Q := by
  obtain ⟨μ, ρ, S, he, hs, h⟩ := h
  refine ⟨μ, ρ, S, he, hs, h.bind.imp fun t S1 μ1 H1 _ e1 s1 h1 J hJ => ?_⟩
  obtain ⟨hz, h1⟩ := h1.ask
  intro Dn hD
  have hD0 : H Dn = none := e1.alive _ hD
  generalize hf : (fun d S2 => may (bindN g d (wipeE ρ own) S2) fun ρ' => body ρ' S2) = f at h1
  -- what is wanted of the whole list
  let P : List D → List Addr → Hp → Prop := fun ds μ' H' => ∀ a vs, H1 a = none → H' a = some (.lst vs) → a ∉ μ' → RpA K μ' H' ds vs → ds.length ≤ sizeLine → Q (.ref a) H'
  have h1 : Po K μ1 H1 (loopQ t.still f t.items S1) (fun ds _ μ' H' => P ds μ' H') := h1.imp fun ds S' μ' H' _ _ _ k a vs hn => k a vs (e1.alive _ hn)
  refine ⟨fun i m H => m = t.items.length - i ∧ i ≤ t.items.length ∧ ∃ μ S acc ds, Ext K μ1 H1 μ H ∧ StOk K μ H S ∧ H Dn = some (.lst acc) ∧ Dn ∉ μ ∧ RpA K μ H ds acc ∧ ds.length ≤ i ∧ Po K μ1 H1 (loopQ t.still f (t.items.drop i) S) (fun r _ μ' H' => P (ds ++ r) μ' H'),
    ⟨t.items.length, rfl, Nat.zero_le _, μ1, S1, [], [], s1.fresh hD _, s1.freshOk hD _, upd_same, (own_new (ds := []) (vs := []) s1 rfl hD).1, rfl, Nat.le_refl _, h1⟩, ?_⟩
  rintro i m H2 ⟨rfl, hi, μ2, S2, acc, ds, x2, s2, d2, n2, r2, l2, h2⟩
  by_cases hlt : i < t.items.length
  · -- a turn
    rw [List.drop_eq_getElem_cons hlt] at h2
    unfold loopQ at h2
    obtain ⟨hst, h2⟩ := h2.ask
    obtain ⟨hgo, _⟩ := hJ μ2 H2 S2 x2 s2 hst
    obtain ⟨hgo, hy⟩ := hgo i hlt
    refine .inr ⟨hgo, fun H3 => ∃ μ S acc ds, Ext K μ1 H1 μ H3 ∧ StOk K μ H3 S ∧ H3 Dn = some (.lst acc) ∧ Dn ∉ μ ∧ RpA K μ H3 ds acc ∧ ds.length ≤ i + 1 ∧ Po K μ1 H1 (loopQ t.still f (t.items.drop (i + 1)) S) (fun r _ μ' H' => P (ds ++ r) μ' H'),
      fun H3 q => ⟨t.items.length - (i + 1), by omega, rfl, hlt, q⟩, fun v H3 y => ?_⟩
    obtain ⟨rfl, d, ed, rd⟩ := hy v H3 y
    have ed' : t.items[i] = d := by
      rw [List.getElem?_eq_getElem hlt] at ed
      exact Option.some.inj ed
    rw [ed'] at h2
    -- the target
    cases hfd : f d S2 with
    | exc c fs S' => rw [hfd] at h2; exact h2.elim
    | bad => rw [hfd] at h2; exact h2.elim
    | ok o S3 =>
      rw [hfd] at h2
      have hfd' : may (bindN g d (wipeE ρ own) S2) (fun ρ' => body ρ' S2) = .ok o S3 := by rw [← hfd, ← hf]
      obtain ⟨ρ', eb, hbody⟩ := may_ok hfd'
      refine ⟨μ2, wipeE ρ own, S2, d, ρ', (he.mono (e1.trans x2)).wipe own, s2, rd, eb, fun σ' he' hin => ⟨?_, ?_⟩⟩
      · rw [(hin.mono hsub).wipe]
        exact wipe_wipe own σ own fun _ h => h
      · refine hb σ' H3 μ2 ρ' S2 Dn acc _ _ he' s2 ?_
        rw [hbody]
        intro μ4 H4 x4 s4
        have dn4 : H4 Dn = some (.lst acc) := x4.fr _ _ d2 n2
        have nn4 : Dn ∉ μ4 := x4.notin d2 n2
        have x14 : Ext K μ1 H1 μ4 H4 := x2.trans x4
        cases o with
        | none =>
          exact ⟨μ4, S3, acc, ds, x14, s4, dn4, nn4, r2.mono x4, Nat.le_succ_of_le l2, Po.map (g := fun r => r) h2⟩
        | some z =>
          intro w rw_
          refine ⟨acc, dn4, ?_, μ4, S3, acc ++ [w], ds ++ [z], own_ext x14 hD (own_le dn4), own_st s4 dn4 nn4, upd_same, nn4, ?_, ?_, ?_⟩
          · rw [← r2.length]; omega
          · exact RpA.le (own_le dn4) _ _ ((r2.mono x4).append (.cons rw_ .nil))
          · rw [List.length_append]; exact Nat.succ_le_succ l2
          · refine (Po.map (g := fun r => z :: r) h2).imp fun r S' μ' H' _ _ _ k => ?_
            rw [List.append_assoc]
            exact k
  · -- the end
    have e : i = t.items.length := by omega
    subst e
    rw [List.drop_length] at h2
    unfold loopQ at h2
    obtain ⟨hst, h2⟩ := h2.ask
    obtain ⟨_, hstop⟩ := hJ μ2 H2 S2 x2 s2 hst
    refine .inl ⟨hstop, ?_⟩
    have k : P (ds ++ []) μ2 H2 := h2 μ2 H2 x2 s2
    rw [List.append_nil] at k
    exact k Dn acc hD d2 n2 r2 (Nat.le_trans l2 hz)
section
variable {p : Pl} {elt tg iter c : Expr} {ci : CI} {ce : CE} {ct : CT} {g : CN} {scope : Scope} {own : List (Str × Nat)} {pos : Pos}
/-- the scope within -/
def Pl.within (p : Pl) (scope : Scope) : Pl := { p with sc := relS scope p.sc }
/-- a block's target: its names are stored there -/
def storeB (p : Pl) (scope : Scope) (g : CN) : Bool := g.slots.all fun i => match p.N[i]? with
  | some x => (relS scope p.sc).names.lookup x == some .local || scope.names.lookup x == some .cell
  | none => true
def inOwn (own : List (Str × Nat)) (g : CN) : Bool := g.slots.all fun i => (own.map (·.2)).contains i
theorem storeB_ok {X : Cx} {s : Shared} {H : Hp} {cl : List (Str × Addr)} {a : Addr} {fp : List Addr} (h : storeB p scope g = true) : ∀ i ∈ g.slots, ∀ x, (p.within scope).N[i]? = some x → (p.within scope).sc.names.lookup x = some .local ∨ (X.blk s H scope (compEnvC scope cl a X.env) fp).fn x = true := fun i hi x hx => by
  have h1 := List.all_eq_true.mp h i hi
  have hx : p.N[i]? = some x := hx
  rw [hx] at h1
  have h1 : ((relS scope p.sc).names.lookup x == some .local || scope.names.lookup x == some .cell) = true := h1
  rw [Bool.or_eq_true] at h1
  exact h1.imp (fun z => eq_of_beq z) fun z => z
theorem inOwn_ok (h : inOwn own g = true) : ∀ i, i ∈ g.slots → i ∈ own.map (·.2) := fun i hi => by
  have := List.all_eq_true.mp h i hi
  simpa using this
theorem comp_lc (hi : SdI p tg iter ci) (hg : SdN (p.within scope) tg g) (he : SdE (p.within scope) elt ce) (ho : inOwn own g = true) (K : Fg) (C : Orc) {σ : Slots} {H : Hp} {Q : VK} (h : tQ K (evQ C (.comp (own.map (·.2)) g ci ce)) σ H Q) : tLc (tI K (evI C ci)) (tN K g) tYes (tE K (evE C ce)) (own.map (·.2)) σ H Q := by
  refine comp_imp (body := fun ρ' S2 => (evE C ce ρ' S2).bind fun x S3 => .ok (some x) S3) (inOwn_ok ho) (fun σ2 H2 μ ρ S Dn acc R R0 he hs h => ?_) (by
    obtain ⟨μ, ρ, S, he, hs, h⟩ := h
    unfold evQ at h
    exact ⟨μ, ρ, S, he, hs, h⟩)
  show if true = true then tE K (evE C ce) σ2 H2 R else R0 H2
  rw [if_pos rfl]
  exact ⟨μ, ρ, S, he, hs, Po.map (g := some) h⟩
theorem compIf_lc (hi : SdI p tg iter ci) (hg : SdN (p.within scope) tg g) (he : SdE (p.within scope) elt ce) (ho : inOwn own g = true) (K : Fg) (C : Orc) {σ : Slots} {H : Hp} {Q : VK} (h : tQ K (evQ C (.compIf (own.map (·.2)) g ci ct ce)) σ H Q) : tLc (tI K (evI C ci)) (tN K g) (tT K (evT C ct)) (tE K (evE C ce)) (own.map (·.2)) σ H Q := by
  refine comp_imp (body := fun ρ' S2 => (evT C ct ρ' S2).bind fun k S3 => if k = true then (evE C ce ρ' S3).bind fun x S4 => .ok (some x) S4 else .ok none S3) (inOwn_ok ho) (fun σ2 H2 μ ρ S Dn acc R R0 he hs h => ?_) (by
    obtain ⟨μ, ρ, S, he, hs, h⟩ := h
    unfold evQ at h
    exact ⟨μ, ρ, S, he, hs, h⟩)
  refine ⟨μ, ρ, S, he, hs, h.bind.imp fun k S1 μ1 H1 _ e1 s1 h1 => ?_⟩
  cases k with
  | true =>
    rw [if_pos rfl] at h1 ⊢
    exact ⟨μ1, ρ, S1, he.mono e1, s1, Po.map (g := some) h1⟩
  | false =>
    rw [if_neg Bool.false_ne_true] at h1 ⊢
    exact h1.at s1
section
variable (hi : SdI p tg iter ci) (ok : blkC p.N p.sc scope own = true) (hg : SdN (p.within scope) tg g) (hsb : storeB p scope g = true) (ho : inOwn own g = true) (he : SdE (p.within scope) elt ce) (hs : notSet iter = true)
include hi ok hg hsb ho he hs
theorem sq_comp : SdQ p (.ListComp elt [⟨tg, iter, [], 0⟩] scope pos) (.comp (own.map (·.2)) g ci ce) := fun X C gd =>
  (pe_lc (own := own) gd.calm gd.nd (hi X C gd) (blkOk_by (by rw [gd.N, gd.sc]; exact ok)) (fun s H a cl fp => hg _ C (gd.blk s H scope cl a fp) (.inr (storeB_ok hsb))) (fun _ _ _ _ _ => pts_nil) (fun s H a cl fp => he _ C (gd.blk s H scope cl a fp)) (fun x => no_fold hs _ x)).pq fun σ H Q h => comp_lc hi hg he ho _ _ h
theorem sq_compIf (ht : SdT (p.within scope) c ct) : SdQ p (.ListComp elt [⟨tg, iter, [c], 0⟩] scope pos) (.compIf (own.map (·.2)) g ci ct ce) := fun X C gd =>
  (pe_lc (own := own) gd.calm gd.nd (hi X C gd) (blkOk_by (by rw [gd.N, gd.sc]; exact ok)) (fun s H a cl fp => hg _ C (gd.blk s H scope cl a fp) (.inr (storeB_ok hsb))) (fun s H a cl fp => pts_one (ht _ C (gd.blk s H scope cl a fp))) (fun s H a cl fp => he _ C (gd.blk s H scope cl a fp)) (fun x => no_fold hs _ x)).pq fun σ H Q h => compIf_lc hi hg he ho _ _ h
end
end
end PQ

/-! Statements. -/
namespace PQ
open PySem PySem.Spec PyProof.Rows L2
section
variable {K : Fg} {μ μ' μ1 : List Addr} {H H' H1 : Hp} {S : Sto} {σ : Slots} {ρ : En}
/-- what is wanted behind a flow -/
def flP (K : Fg) (D : Ends) (fl : Fl) (μ : List Addr) (H : Hp) : Prop := match fl with
  | .nx ρ => ∀ σ, EnvOk K μ H ρ σ → D.nx σ H
  | .bk ρ => ∀ σ, EnvOk K μ H ρ σ → D.bk σ H
  | .ct ρ => ∀ σ, EnvOk K μ H ρ σ → D.ct σ H
  | .rt d => ∀ v, Rp K μ H d v → D.rt v H
def tS (K : Fg) (f : En → Sto → Res Fl) : TS := fun D σ H => ∃ μ ρ S, EnvOk K μ H ρ σ ∧ StOk K μ H S ∧ Po K μ H (f ρ S) fun fl _ μ' H' => flP K D fl μ' H'
end
def SdS (p : Pl) (s : Stmt) (c : CS) : Prop := ∀ X C, Good X p C → X.fn = (fun _ => true) → PS X s (tS X.K (evS C c))
def SdSs (p : Pl) (s : List Stmt) (c : CSs) : Prop := ∀ X C, Good X p C → X.fn = (fun _ => true) → PSs X s (tS X.K (evSs C c))
section
variable {p : Pl} {a b e o i tg iter : Expr} {ca cb co ci ce : CE} {ct : CT} {ii : CI} {g : CN} {pos : Pos} {s : Stmt} {ss ts : List Stmt} {cs : CS} {css cts : CSs}
theorem ss_nil : SdSs p [] .nil := fun X C gd _ => pss_nil.pq fun D σ H ⟨μ, ρ, S, he, hs, h⟩ => by
  unfold evSs at h
  exact h.at hs σ he
theorem ss_cons (h1 : SdS p s cs) (h2 : SdSs p ss css) : SdSs p (s :: ss) (.cons cs css) := fun X C gd hf => (pss_cons (h1 X C gd hf) (h2 X C gd hf)).pq fun D σ H ⟨μ, ρ, S, he, hs, h⟩ => by
  unfold evSs at h
  refine ⟨μ, ρ, S, he, hs, h.bind.imp fun fl S1 μ1 H1 _ e1 s1 h1 => ?_⟩
  cases fl with
  | nx ρ1 => exact fun σ1 he1 => ⟨μ1, ρ1, S1, he1, s1, h1⟩
  | bk ρ1 => exact h1.at s1
  | ct ρ1 => exact h1.at s1
  | rt d => exact h1.at s1
theorem s_pass : SdS p (.Pass pos) .pass := fun X C gd _ => ps_pass.pq fun D σ H ⟨μ, ρ, S, he, hs, h⟩ => by
  unfold evS at h
  exact h.at hs σ he
theorem s_brk : SdS p (.Break pos) .brk := fun X C gd _ => ps_break.pq fun D σ H ⟨μ, ρ, S, he, hs, h⟩ => by
  unfold evS at h
  exact h.at hs σ he
theorem s_cont : SdS p (.Continue pos) .cont := fun X C gd _ => ps_continue.pq fun D σ H ⟨μ, ρ, S, he, hs, h⟩ => by
  unfold evS at h
  exact h.at hs σ he
theorem s_ret (ha : SdE p a ca) : SdS p (.Return (some a) pos) (.ret ca) := fun X C gd _ => (ps_ret (ha X C gd)).pq fun D σ H ⟨μ, ρ, S, he, hs, h⟩ => by
  unfold evS at h
  exact ⟨μ, ρ, S, he, hs, h.bind.imp fun d S1 μ1 H1 _ e1 s1 h1 v rv => h1.at s1 v rv⟩
theorem s_ex (hn : notComp a = true) (ha : SdE p a ca) : SdS p (.Expr a pos) (.ex ca) := fun X C gd _ => (ps_expr (ha X C gd) (no_swap hn _ _ _)).pq fun D σ H ⟨μ, ρ, S, he, hs, h⟩ => by
  unfold evS at h
  exact ⟨μ, ρ, S, he, hs, h.bind.imp fun d S1 μ1 H1 _ e1 s1 h1 v rv => h1.at s1 σ (he.mono e1)⟩
theorem s_if (ht : SdT p a ct) (h1 : SdSs p ss css) (h2 : SdSs p ts cts) : SdS p (.If a ss ts pos) (.ite ct css cts) := fun X C gd hf => (ps_if (ht X C gd) (h1 X C gd hf) (h2 X C gd hf)).pq fun D σ H ⟨μ, ρ, S, he, hs, h⟩ => by
  unfold evS at h
  refine ⟨μ, ρ, S, he, hs, h.bind.imp fun k S1 μ1 H1 _ e1 s1 h1 => ?_⟩
  cases k with
  | true => rw [if_pos rfl] at h1 ⊢; exact ⟨μ1, ρ, S1, he.mono e1, s1, h1⟩
  | false => rw [if_neg Bool.false_ne_true] at h1 ⊢; exact ⟨μ1, ρ, S1, he.mono e1, s1, h1⟩
/-- x = e -/
theorem asg_imp {K : Fg} {fe : En → Sto → Res D} {D : Ends} {σ : Slots} {H : Hp} (h : tS K (fun ρ S => (fe ρ S).bind fun d S1 => may (bindN g d ρ S1) fun ρ' => .ok (.nx ρ') S1) D σ H) : tAsg (tE K fe) (tN K g) D σ H := by
  obtain ⟨μ, ρ, S, he, hs, h⟩ := h
  refine ⟨μ, ρ, S, he, hs, h.bind.imp fun d S1 μ1 H1 _ e1 s1 h1 v rv => ?_⟩
  obtain ⟨ρ', eb, h1⟩ := h1.may
  exact ⟨μ1, ρ, S1, d, ρ', he.mono e1, s1, rv, eb, fun σ' he' _ => h1.at s1 σ' he'⟩
theorem s_set (hn : notComp a = true) (hg : SdN p tg g) (ha : SdE p a ca) (hw : ∀ env : Env, env.scope = p.sc → swappedStores [tg] a env = pure none) (h1 : ∀ env, (assignEach [tg] env).map (·.2) = [assign tg env]) : SdS p (.Assign [tg] a pos) (.set g ca) := fun X C gd hf =>
  (ps_asg (ha X C gd) (hg X C gd (.inl hf)) (no_swap hn _ _ _) (hw _ gd.sc) (h1 _)).pq fun D σ H h => asg_imp (by
    obtain ⟨μ, ρ, S, he, hs, h⟩ := h
    unfold evS at h
    exact ⟨μ, ρ, S, he, hs, h⟩)
theorem alloc_imp {K : Fg} {fq : En → Sto → Res (List D)} {σ : Slots} {H : Hp} {Q : VK} (h : tE K (fun ρ S => (fq ρ S).bind fun ds S1 => .ok (.ref S1.length) (S1 ++ [.lst ds])) σ H Q) : tQ K fq σ H Q := by
  obtain ⟨μ, ρ, S, he, hs, h⟩ := h
  refine ⟨μ, ρ, S, he, hs, ?_⟩
  have h : Po K μ H ((fq ρ S).bind fun ds S1 => Res.ok (D.ref S1.length) (S1 ++ [Ob.lst ds])) (fun d _ μ' H' => ∀ v, Rp K μ' H' d v → Q v H') := h
  generalize fq ρ S = r at h
  cases r with
  | ok ds S1 =>
    intro μ1 H1 e1 s1 a vs hn ha hm rvs hz
    refine h (μ1 ++ [a]) H1 (e1.take hn) (s1.take hm ha rvs hz) (.ref a) ⟨a, rfl, ?_⟩
    rw [← s1.len, List.getElem?_append_right (Nat.le_refl _), Nat.sub_self]
    rfl
  | exc c fs S' => exact h
  | bad => exact h
/-- x = [..], where the stores are swapped -/
def swapB (sc : Scope) (y : Str) (scope : Scope) (l1 l2 : Nat) : Bool := (match sc.kind with | .function => true | _ => false) && (sc.names.lookup y == some .local) && (l1 == l2) && !(scope.names.any fun (n, k) => n == y && (k == .local || k == .cell))
theorem sw_ok {env : Env} {elt : Expr} {gs : List Comprehension} {scope : Scope} {cpos py : Pos} {y : Str} {l : Nat} (h : swapB env.scope y scope py.line cpos.line = true) : swapsWith (.ListComp elt gs scope cpos) (some (.Name y py)) l env = pure true := by
  unfold swapB at h
  simp only [Bool.and_eq_true] at h
  obtain ⟨⟨⟨h1, h2⟩, h3⟩, h4⟩ := h
  refine sw_true ?_ (eq_of_beq h2) h3 (by simpa using h4)
  revert h1
  cases env.scope.kind <;> intro h1 <;> first | rfl | cases h1
section
variable {elt c : Expr} {y : Str} {py cpos : Pos} {iy : Nat} {scope : Scope} {own : List (Str × Nat)}
variable (hy : p.N[iy]? = some y) (hyl : p.sc.names.lookup y = some .local) (hsw : swapB p.sc y scope py.line cpos.line = true)
variable (hi : SdI p tg iter ii) (ok : blkC p.N p.sc scope own = true) (hg : SdN (p.within scope) tg g) (hsb : storeB p scope g = true) (ho : inOwn own g = true) (he : SdE (p.within scope) elt ce) (hs : notSet iter = true)
include hy hyl hsw hi ok hg hsb ho he hs
theorem s_setLc : SdS p (.Assign [.Name y py] (.ListComp elt [⟨tg, iter, [], 0⟩] scope cpos) pos) (.set (.nm iy) (.alloc (.comp (own.map (·.2)) g ii ce))) := fun X C gd hf =>
  (ps_setLc (own := own) (i := iy) gd.calm gd.nd (by rw [gd.N]; exact hy) (by rw [gd.sc]; exact hyl) (sw_ok (by rw [gd.sc]; exact hsw)) (hi X C gd) (blkOk_by (by rw [gd.N, gd.sc]; exact ok)) (fun s H a cl fp => hg _ C (gd.blk s H scope cl a fp) (.inr (storeB_ok hsb))) (fun _ _ _ _ _ => pts_nil) (fun s H a cl fp => he _ C (gd.blk s H scope cl a fp)) (fun x => no_fold hs _ x)).pq fun D σ H ⟨μ, ρ, S, he', hs', h⟩ => by
    show tLc _ _ _ _ _ σ H fun x H1 => gName iy x σ H1 D.nx
    refine comp_lc hi hg he ho _ C (alloc_imp ⟨μ, ρ, S, he', hs', ?_⟩)
    unfold evS at h
    refine Po.imp (P := fun d S1 μ1 H1 => Po X.K μ1 H1 (may (bindN (.nm iy) d ρ S1) fun ρ' => .ok (.nx ρ') S1) fun fl _ μ' H' => flP X.K D fl μ' H') ?_ fun d S1 μ1 H1 _ e1 s1 h1 v rv => ?_
    · have := h.bind
      unfold evE at this
      exact this
    · exact (h1.at (a := Fl.nx (ρ.set iy (some d))) s1) _ ((he'.mono e1).set rv iy)
theorem s_setLcIf (ht : SdT (p.within scope) c ct) : SdS p (.Assign [.Name y py] (.ListComp elt [⟨tg, iter, [c], 0⟩] scope cpos) pos) (.set (.nm iy) (.alloc (.compIf (own.map (·.2)) g ii ct ce))) := fun X C gd hf =>
  (ps_setLc (own := own) (i := iy) gd.calm gd.nd (by rw [gd.N]; exact hy) (by rw [gd.sc]; exact hyl) (sw_ok (by rw [gd.sc]; exact hsw)) (hi X C gd) (blkOk_by (by rw [gd.N, gd.sc]; exact ok)) (fun s H a cl fp => hg _ C (gd.blk s H scope cl a fp) (.inr (storeB_ok hsb))) (fun s H a cl fp => pts_one (ht _ C (gd.blk s H scope cl a fp))) (fun s H a cl fp => he _ C (gd.blk s H scope cl a fp)) (fun x => no_fold hs _ x)).pq fun D σ H ⟨μ, ρ, S, he', hs', h⟩ => by
    show tLc _ _ _ _ _ σ H fun x H1 => gName iy x σ H1 D.nx
    refine compIf_lc (ct := ct) hi hg he ho _ C (alloc_imp ⟨μ, ρ, S, he', hs', ?_⟩)
    unfold evS at h
    refine Po.imp (P := fun d S1 μ1 H1 => Po X.K μ1 H1 (may (bindN (.nm iy) d ρ S1) fun ρ' => .ok (.nx ρ') S1) fun fl _ μ' H' => flP X.K D fl μ' H') ?_ fun d S1 μ1 H1 _ e1 s1 h1 v rv => ?_
    · have := h.bind
      unfold evE at this
      exact this
    · exact (h1.at (a := Fl.nx (ρ.set iy (some d))) s1) _ ((he'.mono e1).set rv iy)
end
/-- a, b = x, y -/
theorem s_par {x y : Str} {px py pt : Pos} {kt k2 pt2} {j k : Nat} (hi : p.N[j]? = some x) (hj : p.N[k]? = some y) (hij : j ≠ k) (hx : p.sc.names.lookup x = some .local) (hy : p.sc.names.lookup y = some .local) (hs1 : notStar a = true) (hs2 : notStar b = true) (ha : SdE p a ca) (hb : SdE p b cb)
    (hw : ∀ env : Env, env.scope = p.sc → swappedStores [.Tuple [.Name x px, .Name y py] kt pt] (.Tuple [a, b] k2 pt2) env = pure (some [x, y])) :
    SdS p (.Assign [.Tuple [.Name x px, .Name y py] kt pt] (.Tuple [a, b] k2 pt2) pos) (.par j k ca cb) := fun X C gd hf =>
  (ps_par (i := j) (j := k) gd.calm gd.nd (by rw [gd.N]; exact hi) (by rw [gd.N]; exact hj) hij (by rw [gd.sc]; exact hx) (by rw [gd.sc]; exact hy) (pa_cons (ha X C gd) (pa_cons (hb X C gd) pa_nil (star_cons hs2 [] _)) (star_cons hs1 [b] _)) (hw _ gd.sc) rfl).pq fun D σ H ⟨μ, ρ, S, he, hs, h⟩ => by
    unfold evS at h
    refine ⟨μ, ρ, S, he, hs, h.bind.imp fun d S1 μ1 H1 _ e1 s1 h1 v rv => ?_⟩
    refine ⟨μ1, ρ, S1, he.mono e1, s1, h1.bind.imp fun d2 S2 μ2 H2 _ e2 s2 h2 w rw_ => ?_⟩
    exact ⟨v, w, rfl, h2.at s2 _ (((he.mono (e1.trans e2)).set (rv.mono e2) j).set rw_ k)⟩
/-- o[i] = e -/
theorem set_rp {K : Fg} {μ : List Addr} {H : Hp} {S : Sto} {x y d : D} {v u w : V} {Q : Hp → Prop} (hs : StOk K μ H S) (rx : Rp K μ H x v) (ry : Rp K μ H y u) (rd : Rp K μ H d w) (h : Po K μ H (setD x y d S) fun _ _ μ' H' => Ext K μ H μ' H' → Q H') : rSetL v u w H Q := by
  obtain ⟨n, ds, a, vs, rfl, rfl, ei, ea, k1, k2, k3, h⟩ := Po.withL hs rx h
  cases y with
  | int j =>
    obtain ⟨m, em, h⟩ := Po.may (show Po K μ H (may (ixN ds.length j) fun m => Res.ok () (S.set n (Ob.lst (ds.set m d)))) _ from h)
    obtain ⟨x1, x2⟩ := hs.put ea (k2.set rd m) (by rw [List.length_set]; exact k3)
    exact ⟨a, vs, j, m, rfl, ry, k1, by rw [← k2.length]; exact em, h _ _ x1 x2 x1⟩
  | _ => exact (show False from h).elim
theorem s_sub {sp : Pos} (hn : notSlice i = true) (hc : notComp e = true) (ho : SdE p o co) (hi : SdE p i ci) (he' : SdE p e ce) : SdS p (.Assign [.Subscript o i sp] e pos) (.sub co ci ce) := fun X C gd hf =>
  (ps_asg (he' X C gd) (pg_sub (ho X C gd) (hi X C gd) set_list (fun v => sub_store hn _ v)) (by rw [show swapsWithSole [.Subscript o i sp] e pos.line X.env = swapsWith e (some (.Subscript o i sp)) pos.line X.env from by unfold swapsWithSole; rfl]; exact no_swap hc _ _ _) (by cases e <;> rfl) rfl).pq fun D σ H ⟨μ, ρ, S, he, hs, h⟩ => by
    unfold evS at h
    refine ⟨μ, ρ, S, he, hs, h.bind.imp fun d S1 μ1 H1 _ e1 s1 h1 w rd => ?_⟩
    refine ⟨μ1, ρ, S1, he.mono e1, s1, h1.bind.imp fun x S2 μ2 H2 _ e2 s2 h2 v rx => ?_⟩
    refine ⟨μ2, ρ, S2, he.mono (e1.trans e2), s2, h2.bind.imp fun y S3 μ3 H3 _ e3 s3 h3 u ry => ?_⟩
    exact set_rp s3 (rx.mono e3) ry ((rd.mono e2).mono e3) (h3.bind.imp fun _ S4 μ4 H4 _ e4 s4 h4 _ => h4.at s4 σ ((he.mono (e1.trans (e2.trans e3))).mono e4))
/-- an operation in place, by values -/
def ipR : Bop → TIp
  | .add => fun x y H Q => rI0 (fun i j => .int (i + j)) x y H Q ∨ ∃ i j, x = .str i ∧ y = .str j ∧ i.length + j.length ≤ sizeLine ∧ Q (.str (i ++ j)) H
  | .sub => rI0 fun i j => .int (i - j)
  | _ => fun _ _ _ _ => False
def bopOp : Bop → Operator
  | .add => .Add | .sub => .Sub | .mul => .Mult | .fdiv => .FloorDiv | .mod => .Mod | .pow => .Pow | .shl => .LShift | .shr => .RShift | .band => .BitAnd | .bor => .BitOr | .bxor => .BitXor
theorem ip_ok (f : Bop) (X : Cx) : PIp X (bopOp f) (ipR f) := by
  cases f with
  | add => exact iop_add.or iop_add_str
  | sub => exact iop_sub
  | _ => exact fun _ _ _ _ _ _ _ _ _ _ _ _ h => h.elim
theorem aug_rp {f : Bop} {K : Fg} {μ : List Addr} {H : Hp} {S : Sto} {x y : D} {v u : V} {Q : VK} (hs : StOk K μ H S) (rx : Rp K μ H x v) (ry : Rp K μ H y u) (h : Po K μ H (augD f x y S) fun d _ μ' H' => ∀ v, Rp K μ' H' d v → Q v H') : ipR f v u H Q := by
  cases f with
  | add =>
    cases x with
    | int i => cases y with
      | int j => exact .inl ⟨i, j, rx, ry, Po.at (show Po K μ H (Res.ok (D.int (i + j)) S) _ from h) hs _ rfl⟩
      | _ => exact (show False from h).elim
    | str i => cases y with
      | str j =>
        obtain ⟨z, h⟩ := Po.ite (show Po K μ H (if i.length + j.length ≤ sizeLine then Res.ok (D.str (i ++ j)) S else Res.bad) _ from h)
        exact .inr ⟨i, j, rx, ry, z, Po.at h hs _ rfl⟩
      | _ => exact (show False from h).elim
    | _ => exact (show False from h).elim
  | sub =>
    cases x with
    | int i => cases y with
      | int j => exact ⟨i, j, rx, ry, Po.at (show Po K μ H (Res.ok (D.int (i - j)) S) _ from h) hs _ rfl⟩
      | _ => exact (show False from h).elim
    | _ => exact (show False from h).elim
  | _ => exact (show False from by cases x <;> cases y <;> exact h).elim
theorem s_aug {x : Str} {j : Nat} {f : Bop} {px : Pos} (hx : NameAt p x j) (ha : SdE p a ca) : SdS p (.AugAssign (.Name x px) (bopOp f) a pos) (.aug j f ca) := fun X C gd hf =>
  (ps_aug (i := j) gd.nd (by rw [gd.N]; exact hx.1) (by rw [gd.sc]; exact hx.2) (ha X C gd) (ip_ok f X) (.inl (by rw [hf]))).pq fun D σ H ⟨μ, ρ, S, he, hs, h⟩ => by
    unfold evS at h
    obtain ⟨d, ed, h⟩ := h.may
    have e2 : ρ[j]? = some (some d) := by
      cases q : ρ[j]? with
      | none => rw [q] at ed; cases ed
      | some o => rw [q] at ed; exact congrArg some ed
    obtain ⟨v, q1, q2⟩ := he.2 j d e2
    refine ⟨v, q1, μ, ρ, S, he, hs, h.bind.imp fun y S1 μ1 H1 _ e1 s1 h1 u ru => ?_⟩
    exact aug_rp s1 (q2.mono e1) ru (h1.bind.imp fun z S2 μ2 H2 _ e2 s2 h2 w rw_ => h2.at s2 _ (((he.mono e1).mono e2).set rw_ j))
/-- o[i] of a list, by values -/
theorem get_list {X : Cx} : PGet X (rIxL X.K) := by
  intro pins s σ H x y v u Q I rx ry h
  obtain ⟨p, xs, i, z, rfl, rfl, hq, he, q⟩ := h
  cases rx
  obtain ⟨t, rfl⟩ := ry
  obtain ⟨its, r, pl, hz⟩ := I.list hq
  obtain ⟨j, h1, h2, h3, h4, h5⟩ := atI_get he
  obtain ⟨w, ew, rw'⟩ := r.get h2
  have hl := r.length
  have hn := line63
  have fin : EP X pins σ Q w s := ⟨z, H, I, rw', q⟩
  by_cases h0 : 0 ≤ i
  · have hj : i.toNat = j := by
      rw [seqIndex_of h0 h5] at h1
      exact Option.some.inj h1
    exact wpAny_getItem_list pl.isList h0 (by omega) (by rw [hj]; simpa using ew) fin
  · have hj : (i + (its.toArray.size : Int)).toNat = j := by
      rw [seqIndex_neg (by omega) h4] at h1
      rw [List.size_toArray, ← hl]
      exact Option.some.inj h1
    exact wpAny_getItem_list_neg pl.isList (by omega) (by rw [List.size_toArray] <;> omega) (by omega) (by rw [hj]; simpa using ew) fin
theorem s_augS {f : Bop} {sp : Pos} (hn : notSlice i = true) (ho : SdE p o co) (hi : SdE p i ci) (he' : SdE p e ce) : SdS p (.AugAssign (.Subscript o i sp) (bopOp f) e pos) (.augS co ci f ce) := fun X C gd hf =>
  (ps_augS (ho X C gd) (hi X C gd) get_list (he' X C gd) (ip_ok f X) set_list (fun ov iv new => aug_store hn ov iv new)).pq fun D σ H ⟨μ, ρ, S, he, hs, h⟩ => by
    unfold evS at h
    refine ⟨μ, ρ, S, he, hs, h.bind.imp fun x S1 μ1 H1 _ e1 s1 h1 v rx => ?_⟩
    refine ⟨μ1, ρ, S1, he.mono e1, s1, h1.bind.imp fun y S2 μ2 H2 _ e2 s2 h2 u ry => ?_⟩
    obtain ⟨n, ds, a, vs, rfl, rfl, eo, ea, k1, k2, k3, h2⟩ := h2.withL s2 (rx.mono e2)
    cases y with
    | int j =>
      obtain ⟨d, ed, h3⟩ := Po.may (show Po X.K μ2 H2 (may (atI ds j) fun v => (evE C ce ρ S2).bind fun w S4 => (augD f v w S4).bind fun z S5 => (setD (.ref n) (.int j) z S5).bind fun _ S6 => Res.ok (Fl.nx ρ) S6) (fun fl _ μ' H' => flP X.K D fl μ' H') from h2)
      obtain ⟨w, ew, rw_⟩ := rp_at k2 ed
      refine ⟨a, vs, j, w, rfl, ry, .of k1, ew, μ2, ρ, S2, he.mono (e1.trans e2), s2, h3.bind.imp fun z S4 μ4 H4 _ e4 s4 h4 t rt => ?_⟩
      refine aug_rp s4 (rw_.mono e4) rt (h4.bind.imp fun z2 S5 μ5 H5 _ e5 s5 h5 t2 rt2 => ?_)
      refine set_rp s5 (((rx.mono e2).mono e4).mono e5) (show Rp X.K μ5 H5 (.int j) u from ry) rt2 (h5.bind.imp fun _ S6 μ6 H6 _ e6 s6 h6 _ => ?_)
      exact h6.at s6 σ ((he.mono (e1.trans (e2.trans (e4.trans e5)))).mono e6)
    | _ => exact (show False from h2).elim
/-- for -/
theorem s_for (hsn : notSet iter = true) (hi : SdI p tg iter ii) (hg : SdN p tg g) (hb : SdSs p ss css) : SdS p (.For tg iter ss [] pos) (.for g ii css) := fun X C gd hf =>
  (ps_for gd.own gd.calm (hi X C gd) (hg X C gd (.inl hf)) (hb X C gd hf) (fun x => no_fold hsn _ x)).pq fun D σ H ⟨μ, ρ, S, he, hs, h⟩ => by
    unfold evS at h
    refine ⟨μ, ρ, S, he, hs, h.bind.imp fun t S1 μ1 H1 _ e1 s1 h1 J hJ => ?_⟩
    generalize hbf : (fun d ρ1 S2 => may (bindN g d ρ1 S2) fun ρ2 => evSs C css ρ2 S2) = f at h1
    refine ⟨fun i m σ H => m = t.items.length - i ∧ i ≤ t.items.length ∧ ∃ μ ρ S, Ext X.K μ1 H1 μ H ∧ EnvOk X.K μ H ρ σ ∧ StOk X.K μ H S ∧ Po X.K μ H (loopS t.still f (t.items.drop i) ρ S) fun fl _ μ' H' => flP X.K D fl μ' H',
      ⟨t.items.length, rfl, Nat.zero_le _, μ1, ρ, S1, .refl, he.mono e1, s1, h1⟩, ?_⟩
    rintro i m σ2 H2 ⟨rfl, hi, μ2, ρ2, S2, x2, he2, s2, h2⟩
    by_cases hlt : i < t.items.length
    · rw [List.drop_eq_getElem_cons hlt] at h2
      unfold loopS at h2
      obtain ⟨hst, h2⟩ := h2.ask
      obtain ⟨hgo, _⟩ := hJ μ2 H2 S2 x2 s2 hst
      obtain ⟨hgo, hy⟩ := hgo i hlt
      refine .inr ⟨hgo, fun σ3 H3 => ∃ μ ρ S, Ext X.K μ1 H1 μ H3 ∧ EnvOk X.K μ H3 ρ σ3 ∧ StOk X.K μ H3 S ∧ Po X.K μ H3 (loopS t.still f (t.items.drop (i + 1)) ρ S) fun fl _ μ' H' => flP X.K D fl μ' H',
        fun σ3 H3 q => ⟨t.items.length - (i + 1), by omega, rfl, hlt, q⟩, fun v H3 y => ?_⟩
      obtain ⟨rfl, d, ed, rd⟩ := hy v H3 y
      have ed' : t.items[i] = d := by
        rw [List.getElem?_eq_getElem hlt] at ed
        exact Option.some.inj ed
      rw [ed', ← hbf] at h2
      obtain ⟨ρ3, eb, h3⟩ := Po.may (Po.bind h2)
      refine ⟨μ2, ρ2, S2, d, ρ3, he2, s2, rd, eb, fun σ' he' _ => ⟨μ2, ρ3, S2, he', s2, h3.imp fun fl S4 μ4 H4 _ e4 s4 h4 => ?_⟩⟩
      rw [hbf] at h4
      cases fl with
      | nx ρ4 => exact fun σ4 he4 => ⟨μ4, ρ4, S4, x2.trans e4, he4, s4, h4⟩
      | ct ρ4 => exact fun σ4 he4 => ⟨μ4, ρ4, S4, x2.trans e4, he4, s4, h4⟩
      | bk ρ4 => exact h4.at s4
      | rt d => exact h4.at s4
    · have e : i = t.items.length := by omega
      subst e
      rw [List.drop_length] at h2
      unfold loopS at h2
      obtain ⟨hst, h2⟩ := h2.ask
      exact .inl ⟨(hJ μ2 H2 S2 x2 s2 hst).2, h2.at s2 σ2 he2⟩
/-- while -/
theorem s_while (ht : SdT p a ct) (hb : SdSs p ss css) : SdS p (.While a ss [] pos) (.while ct css) := fun X C gd hf =>
  (ps_while gd.own (ht X C gd) (hb X C gd hf)).pq fun D σ H ⟨μ, ρ, S, he, hs, h⟩ => by
    unfold evS at h
    refine ⟨fun m σ H => ∃ μ ρ S, EnvOk X.K μ H ρ σ ∧ StOk X.K μ H S ∧ Po X.K μ H (whileS (evT C ct) (evSs C css) m ρ S) fun fl _ μ' H' => flP X.K D fl μ' H', ⟨turns, μ, ρ, S, he, hs, h⟩, ?_⟩
    rintro m σ2 H2 ⟨μ2, ρ2, S2, he2, s2, h2⟩
    cases m with
    | zero => exact h2.elim
    | succ m =>
      unfold whileS at h2
      refine ⟨μ2, ρ2, S2, he2, s2, h2.bind.imp fun k S3 μ3 H3 _ e3 s3 h3 => ?_⟩
      cases k with
      | true =>
        rw [if_pos rfl] at h3 ⊢
        refine ⟨fun σ4 H4 => ∃ μ ρ S, EnvOk X.K μ H4 ρ σ4 ∧ StOk X.K μ H4 S ∧ Po X.K μ H4 (whileS (evT C ct) (evSs C css) m ρ S) fun fl _ μ' H' => flP X.K D fl μ' H', fun σ4 H4 q => ⟨m, Nat.lt_succ_self m, q⟩, ?_⟩
        refine ⟨μ3, ρ2, S3, he2.mono e3, s3, h3.bind.imp fun fl S4 μ4 H4 _ e4 s4 h4 => ?_⟩
        cases fl with
        | nx ρ4 => exact fun σ4 he4 => ⟨μ4, ρ4, S4, he4, s4, h4⟩
        | ct ρ4 => exact fun σ4 he4 => ⟨μ4, ρ4, S4, he4, s4, h4⟩
        | bk ρ4 => exact h4.at s4
        | rt d => exact h4.at s4
      | false =>
        rw [if_neg Bool.false_ne_true] at h3 ⊢
        exact h3.at s3 σ2 (he2.mono e3)
end
end PQ

/-! From the text to the language, with the proof. -/
namespace PQ
open PySem PySem.Spec PyProof.Rows L2
section
variable {p : Pl} {a b e o i tg iter : Expr} {ca cb co ci ce : CE} {ct : CT} {ii : CI} {g : CN} {pos : Pos}
theorem no_swap2 (t : Expr) (ht : ∀ x q, t ≠ .Name x q) (l : Nat) (env : Env) : swapsWith e (some t) l env = pure false := by
  cases e <;> first | rfl | (cases t <;> first | rfl | exact absurd rfl (ht _ _))
theorem s_sub2 {sp : Pos} (hn : notSlice i = true) (ho : SdE p o co) (hi : SdE p i ci) (he' : SdE p e ce) : SdS p (.Assign [.Subscript o i sp] e pos) (.sub co ci ce) := fun X C gd hf =>
  (ps_asg (he' X C gd) (pg_sub (ho X C gd) (hi X C gd) set_list (fun v => sub_store hn _ v)) (by rw [show swapsWithSole [.Subscript o i sp] e pos.line X.env = swapsWith e (some (.Subscript o i sp)) pos.line X.env from by unfold swapsWithSole; rfl]; exact no_swap2 _ (fun x q z => by cases z) _ _) (by cases e <;> rfl) rfl).pq fun D σ H ⟨μ, ρ, S, he, hs, h⟩ => by
    unfold evS at h
    refine ⟨μ, ρ, S, he, hs, h.bind.imp fun d S1 μ1 H1 _ e1 s1 h1 w rd => ?_⟩
    refine ⟨μ1, ρ, S1, he.mono e1, s1, h1.bind.imp fun x S2 μ2 H2 _ e2 s2 h2 v rx => ?_⟩
    refine ⟨μ2, ρ, S2, he.mono (e1.trans e2), s2, h2.bind.imp fun y S3 μ3 H3 _ e3 s3 h3 u ry => ?_⟩
    exact set_rp s3 (rx.mono e3) ry ((rd.mono e2).mono e3) (h3.bind.imp fun _ S4 μ4 H4 _ e4 s4 h4 _ => h4.at s4 σ ((he.mono (e1.trans (e2.trans e3))).mono e4))
/-- (a, b) = .. -/
theorem s_setT {es : List Expr} {is : List Nat} {k : Nat} {q : Pos} (hg : NamesAt p es is) (ha : SdE p a ca) (hw : ∀ env : Env, env.scope = p.sc → swappedStores [.Tuple es k q] a env = pure none) : SdS p (.Assign [.Tuple es k q] a pos) (.set (.tup is) ca) := fun X C gd hf =>
  (ps_asg (ha X C gd) (sn_tup hg X C gd (.inl hf)) (by rw [show swapsWithSole [.Tuple es k q] a pos.line X.env = swapsWith a (some (.Tuple es k q)) pos.line X.env from by unfold swapsWithSole; rfl]; exact no_swap2 _ (fun x q z => by cases z) _ _) (hw _ gd.sc) rfl).pq fun D σ H h => asg_imp (by
    obtain ⟨μ, ρ, S, he, hs, h⟩ := h
    unfold evS at h
    exact ⟨μ, ρ, S, he, hs, h⟩)
/-- x = e, the stores in order -/
theorem s_setN {x : Str} {q : Pos} {j : Nat} (hx : NameAt p x j) (ha : SdE p a ca) (hsw : ∀ env : Env, env.scope = p.sc → swapsWith a (some (.Name x q)) pos.line env = pure false) : SdS p (.Assign [.Name x q] a pos) (.set (.nm j) ca) := fun X C gd hf =>
  (ps_asg (ha X C gd) (sn_nm hx X C gd (.inl hf)) (by rw [show swapsWithSole [.Name x q] a pos.line X.env = swapsWith a (some (.Name x q)) pos.line X.env from by unfold swapsWithSole; rfl]; exact hsw _ gd.sc) (by cases a <;> rfl) rfl).pq fun D σ H h => asg_imp (by
    obtain ⟨μ, ρ, S, he, hs, h⟩ := h
    unfold evS at h
    exact ⟨μ, ρ, S, he, hs, h⟩)
end
def bkS (sc : Scope) : ScopeKind := if sc.kind.isAnnotationScope then .function else sc.kind
def swB (sc : Scope) (value : Expr) (t : Str) (tl : Nat) : Bool := match value with
  | .ListComp _ _ s q => bkS sc == .function && sc.names.lookup t == some .local && tl == q.line && !(s.names.any fun (n, k) => n == t && (k == .local || k == .cell))
  | .SetComp _ _ s q => bkS sc == .function && sc.names.lookup t == some .local && tl == q.line && !(s.names.any fun (n, k) => n == t && (k == .local || k == .cell))
  | .DictComp _ _ _ s q => bkS sc == .function && sc.names.lookup t == some .local && tl == q.line && !(s.names.any fun (n, k) => n == t && (k == .local || k == .cell))
  | _ => false
theorem swB_ok {sc : Scope} {e : Expr} {t : Str} {q : Pos} {l : Nat} (h : swB sc e t q.line = false) (env : Env) (he : env.scope = sc) : swapsWith e (some (.Name t q)) l env = pure false := by
  subst he
  cases e <;> first
    | rfl
    | (show pure (env.blockKind == .function && env.kindOf t == some .local && q.line == _ && _) = _
       exact congrArg pure h)
def swpS (sc : Scope) (ts vs : List Expr) : Option (Option (List Str)) :=
  if (!(ts.length == 2 || ts.length == 3) || vs.length != ts.length || bkS sc != .function) = true then some none
  else if (vs.any fun | .Starred .. => true | _ => false) = true then some none
  else if ((ts.filterMap fun
    | .Name id pos => if (sc.names.lookup id == some .local && pos.line == (ts.head?.map (·.pos.line)).getD 0) = true then some id else none
    | _ => none).length != ts.length || (ts.filterMap fun
    | .Name id pos => if (sc.names.lookup id == some .local && pos.line == (ts.head?.map (·.pos.line)).getD 0) = true then some id else none
    | _ => none).eraseDups.length != (ts.filterMap fun
    | .Name id pos => if (sc.names.lookup id == some .local && pos.line == (ts.head?.map (·.pos.line)).getD 0) = true then some id else none
    | _ => none).length) = true then some none
  else if vs.all (foldedForSure 8) = true then some none
  else if vs.all (constantsAlone 8) = true then none
  else some (some (ts.filterMap fun
    | .Name id pos => if (sc.names.lookup id == some .local && pos.line == (ts.head?.map (·.pos.line)).getD 0) = true then some id else none
    | _ => none))
theorem swpS_ok {sc : Scope} {ts vs : List Expr} {r : Option (List Str)} {k k2 : Nat} {q q2 : Pos} (h : swpS sc ts vs = some r) (env : Env) (he : env.scope = sc) : swappedStores [.Tuple ts k q] (.Tuple vs k2 q2) env = pure r := by
  subst he
  unfold swpS at h
  unfold swappedStores
  show (if (!(ts.length == 2 || ts.length == 3) || vs.length != ts.length || env.blockKind != .function) = true then pure none else _) = _
  split at h
  · rename_i h1
    rw [if_pos (show (!(ts.length == 2 || ts.length == 3) || vs.length != ts.length || env.blockKind != .function) = true from h1)]
    exact congrArg pure (Option.some.inj h)
  · rename_i h1
    rw [if_neg (show ¬ (!(ts.length == 2 || ts.length == 3) || vs.length != ts.length || env.blockKind != .function) = true from h1)]
    show (if (vs.any fun | .Starred .. => true | _ => false) = true then pure none else _) = _
    split at h
    · rename_i h2
      rw [if_pos h2]
      exact congrArg pure (Option.some.inj h)
    · rename_i h2
      rw [if_neg h2]
      split at h
      · rename_i h3
        refine (if_pos ?_).trans (congrArg pure (Option.some.inj h))
        exact h3
      · rename_i h3
        refine (if_neg ?_).trans ?_
        · exact h3
        · split at h
          · rename_i h4
            exact (if_pos h4).trans (congrArg pure (Option.some.inj h))
          · rename_i h4
            refine (if_neg h4).trans ?_
            split at h
            · cases h
            · rename_i h5
              refine (if_neg h5).trans ?_
              exact congrArg pure (Option.some.inj h)
end PQ

/-! The compiler. -/
namespace PQ
open PySem PySem.Spec PyProof.Rows L2
/-- a name's place -/
def idxN (p : Pl) (x : Str) : Option { i : Nat // p.N[i]? = some x } := match p.N.findIdx? (· == x) with
  | some i => if h : p.N[i]? = some x then some ⟨i, h⟩ else none
  | none => none
def nameAt (p : Pl) (x : Str) : Option { i : Nat // NameAt p x i } := match idxN p x with
  | some ⟨i, h⟩ => if h1 : p.sc.names.lookup x = some .local then some ⟨i, h, .inl h1⟩ else if h2 : p.sc.names.lookup x = some .cell then some ⟨i, h, .inr h2⟩ else none
  | none => none
def namesAt (p : Pl) : (es : List Expr) → Option { is : List Nat // NamesAt p es is }
  | [] => some ⟨[], .nil⟩
  | .Name x q :: es => match nameAt p x, namesAt p es with
    | some ⟨i, h⟩, some ⟨is, hs⟩ => some ⟨i :: is, .cons h hs⟩
    | _, _ => none
  | _ => none
def cN (p : Pl) : (tg : Expr) → Option { g : CN // SdN p tg g }
  | .Name x q => match nameAt p x with
    | some ⟨i, h⟩ => some ⟨_, sn_nm h⟩
    | none => none
  | .Tuple es k q => match namesAt p es with
    | some ⟨is, h⟩ => some ⟨_, sn_tup h⟩
    | none => none
  | _ => none
/-- a built-in's name here -/
def isB_ (p : Pl) (x : Str) : Option (PLift (x ∈ p.B ∧ p.sc.names.lookup x = some .globalImplicit)) := if h : x ∈ p.B ∧ p.sc.names.lookup x = some .globalImplicit then some ⟨h⟩ else none
/-- a def's name here -/
def isF_ (p : Pl) (x : Str) : Option { i : Nat // p.T[i]? = some x ∧ p.sc.names.lookup x = some .globalImplicit ∧ (x == ("__debug__" : Str)) = false } := match p.T.findIdx? (· == x) with
  | some i => if h : p.T[i]? = some x ∧ p.sc.names.lookup x = some .globalImplicit ∧ (x == ("__debug__" : Str)) = false then some ⟨i, h⟩ else none
  | none => none
def copOf : (op : CmpOp) → Option { o : Cop // copOp o = op }
  | .Eq => some ⟨.eq, rfl⟩
  | .NotEq => some ⟨.ne, rfl⟩
  | .Lt => some ⟨.lt, rfl⟩
  | .LtE => some ⟨.le, rfl⟩
  | .Gt => some ⟨.gt, rfl⟩
  | .GtE => some ⟨.ge, rfl⟩
  | _ => none
def bopOf : (op : Operator) → Option { o : Bop // bopOp o = op }
  | .Add => some ⟨.add, rfl⟩
  | .Sub => some ⟨.sub, rfl⟩
  | _ => none
/-- a list by its look -/
def looksList : Nat → Expr → Bool
  | _, .List .. => true
  | _, .ListComp .. => true
  | _, .Call (.Name f _) _ _ _ => f == ("list" : Str) || f == ("sorted" : Str)
  | n + 1, .BinOp a .Add b _ => looksList n a || looksList n b
  | _, .Subscript _ (.Slice none none (some _) _) _ => true
  | _, _ => false
def ownOf (p : Pl) (scope : Scope) : List (Str × Nat) := scope.names.filterMap fun (x, k) => match k with
  | .local => (p.N.findIdx? (· == x)).map fun i => (x, i)
  | .cell => (p.N.findIdx? (· == x)).map fun i => (x, i)
  | _ => none
def glbIn (x : Str) : (l : List (Str × Gv)) → Option { g : Gv // (x, g) ∈ l }
  | [] => none
  | (y, g) :: r => if h : y = x then some ⟨g, by subst h; exact List.mem_cons_self⟩ else (match glbIn x r with
    | some ⟨g, h⟩ => some ⟨g, List.mem_cons_of_mem _ h⟩
    | none => none)
abbrev GlbOk (p : Pl) (x : Str) : Prop := p.sc.names.lookup x = some .globalImplicit ∧ (x == ("__debug__" : Str)) = false
abbrev VisOk (p : Pl) (x : Str) : Prop := (p.sc.names.lookup x = some .local ∨ p.sc.names.lookup x = some .cell ∨ p.sc.names.lookup x = some .free) ∧ (x == ("__debug__" : Str)) = false ∧ (x == ("__classdict__" : Str)) = false
mutual
def cE : Nat → (p : Pl) → (e : Expr) → Option { c : CE // SdE p e c }
  | 0, _, _ => none
  | n + 1, p, e => match cQ n p e with
    | some ⟨q, h⟩ => some ⟨_, sd_alloc h⟩
    | none => match e with
      | .Name x q => match idxN p x with
        | some ⟨i, h⟩ => if h2 : VisOk p x then some ⟨_, sd_var h h2.1 h2.2.1 h2.2.2⟩ else none
        | none => (match glbIn x p.G with
          | some ⟨.con d, h⟩ => if h2 : GlbOk p x then some ⟨_, sd_con h h2.1 h2.2⟩ else none
          | _ => none)
      | .Constant (.int i) j q => some ⟨.lit (.int i), sd_int⟩
      | .Constant (.str i) j q => some ⟨.lit (.str i), sd_str⟩
      | .Constant (.bool i) j q => some ⟨.lit (.bl i), sd_bl⟩
      | .Constant .none j q => some ⟨.lit .non, sd_non⟩
      | .Tuple es k q => match cA n p es with
        | some ⟨c, h⟩ => some ⟨_, sd_tup h⟩
        | none => none
      | .BinOp a op b q => match cE n p a, cE n p b with
        | some ⟨ca, ha⟩, some ⟨cb, hb⟩ => (match op with
          | .Add => some ⟨_, sd_add ha hb⟩
          | .Sub => some ⟨_, sd_sub ha hb⟩
          | .Mult => some ⟨_, sd_mul ha hb⟩
          | .FloorDiv => some ⟨_, sd_fdiv ha hb⟩
          | .Mod => some ⟨_, sd_mod ha hb⟩
          | .Pow => some ⟨_, sd_pow ha hb⟩
          | .LShift => some ⟨_, sd_shl ha hb⟩
          | .RShift => some ⟨_, sd_shr ha hb⟩
          | .BitAnd => some ⟨_, sd_band ha hb⟩
          | .BitOr => some ⟨_, sd_bor ha hb⟩
          | .BitXor => some ⟨_, sd_bxor ha hb⟩
          | _ => none)
        | _, _ => none
      | .UnaryOp .USub a q => match cE n p a with
        | some ⟨ca, ha⟩ => some ⟨_, sd_neg ha⟩
        | none => none
      | .UnaryOp .Not a q => match cE n p a with
        | some ⟨ca, ha⟩ => some ⟨_, sd_not ha⟩
        | none => none
      | .BoolOp op [a] q => match cE n p a with
        | some ⟨ca, ha⟩ => some ⟨ca, sd_one ha⟩
        | none => none
      | .BoolOp .And (a :: b :: r) q => match cE n p a, cE n p (.BoolOp .And (b :: r) q) with
        | some ⟨ca, ha⟩, some ⟨cb, hb⟩ => some ⟨_, sd_and ha hb⟩
        | _, _ => none
      | .BoolOp .Or (a :: b :: r) q => match cE n p a, cE n p (.BoolOp .Or (b :: r) q) with
        | some ⟨ca, ha⟩, some ⟨cb, hb⟩ => some ⟨_, sd_or ha hb⟩
        | _, _ => none
      | .IfExp t a b q => match cT n p t, cE n p a, cE n p b with
        | some ⟨ct, ht⟩, some ⟨ca, ha⟩, some ⟨cb, hb⟩ => some ⟨_, sd_ife ht ha hb⟩
        | _, _, _ => none
      | .Compare a ops bs q => match cC n p (.Compare a ops bs q) with
        | some ⟨c, h⟩ => some ⟨c, h.1.val⟩
        | none => none
      | .Subscript a (.Slice lo hi none p2) q => match cE n p a, cO n p lo, cO n p hi with
        | some ⟨ca, ha⟩, some ⟨cl, hl⟩, some ⟨ch, hh⟩ => some ⟨_, sd_slc ha hl hh⟩
        | _, _, _ => none
      | .Subscript a b q => if hn : notSlice b = true then (match cE n p a, cE n p b with
        | some ⟨ca, ha⟩, some ⟨cb, hb⟩ => some ⟨_, sd_idx hn ha hb⟩
        | _, _ => none) else none
      | .Call (.Attribute a m ap) [] [] q => if hc : notCall a = true ∧ (ap.endLine == q.line) = true then (match cE n p a with
        | some ⟨ca, ha⟩ => if h : m = "pop" then some ⟨.pop ca, by subst h; exact sd_pop hc.1 hc.2 ha⟩ else none
        | none => none) else none
      | .Call (.Attribute (.Constant (.str s) j cp) m ap) [e] [] q => if hc : m = "join" ∧ (ap.endLine == q.line) = true ∧ notStar e = true then (match cR n p e with
        | some ⟨cr, hr⟩ => some ⟨.join s cr, by
          obtain ⟨h1, h2, h3⟩ := hc
          subst h1
          exact sd_join h2 h3 hr⟩
        | none => none) else none
      | .Call (.Attribute a m ap) [e] [] q => if hc : notCall a = true ∧ (ap.endLine == q.line) = true ∧ notStar e = true then (match cE n p a with
        | some ⟨ca, ha⟩ =>
          if h : m = "extend" then (match cR n p e with
            | some ⟨cr, hr⟩ => some ⟨.ext ca cr, by subst h; exact sd_ext hc.1 hc.2.1 hc.2.2 ha hr⟩
            | none => none)
          else (match cE n p e with
            | some ⟨ce, he⟩ =>
              if h : m = "append" then some ⟨.app ca ce, by subst h; exact sd_app hc.1 hc.2.1 hc.2.2 ha he⟩
              else if h : m = "pop" then some ⟨.popAt ca ce, by subst h; exact sd_popAt hc.1 hc.2.1 hc.2.2 ha he⟩
              else if h : m = "index" then some ⟨.tix ca ce, by subst h; exact sd_tix hc.1 hc.2.1 hc.2.2 ha he⟩
              else none
            | none => none)
        | none => none) else none
      | .Call (.Name f q2) es [] q => match isF_ p f with
        | some ⟨i, hf⟩ => (match es with
          | [] => some ⟨_, sd_call0 hf.1 hf.2.1 hf.2.2⟩
          | e :: es => if hs : notStar e = true ∧ es.all notStar = true then (match cA n p (e :: es) with
            | some ⟨c, h⟩ => some ⟨_, sd_call hf.1 hf.2.1 hf.2.2 hs.1 hs.2 h⟩
            | none => none) else none)
        | none => match isB_ p f with
          | some ⟨hb⟩ => (match es with
            | [e] => if hs : notStar e = true then
                (if h : f = "int" then (match cE n p e with
                  | some ⟨c, hc⟩ => some ⟨.fn1 .int c, by subst h; exact sd_intT hb.1 hb.2 hs hc⟩
                  | none => none)
                else if h : f = "abs" then (match cE n p e with
                  | some ⟨c, hc⟩ => some ⟨.fn1 .abs c, by subst h; exact sd_abs hb.1 hb.2 hs hc⟩
                  | none => none)
                else if h : f = "str" then (match cE n p e with
                  | some ⟨c, hc⟩ => some ⟨.fn1 .str c, by subst h; exact sd_strT hb.1 hb.2 hs hc⟩
                  | none => none)
                else (match cR n p e with
                  | some ⟨c, hc⟩ =>
                    if h : f = "len" then some ⟨.agg .len c, by subst h; exact sd_len hb.1 hb.2 hs hc⟩
                    else if h : f = "tuple" then some ⟨.agg .tuple c, by subst h; exact sd_tuple hb.1 hb.2 hs hc⟩
                    else if h : f = "sum" then some ⟨.agg .sum c, by subst h; exact sd_sum hb.1 hb.2 hs hc⟩
                    else if h : f = "all" then some ⟨.agg .all c, by subst h; exact sd_all hb.1 hb.2 hs hc⟩
                    else if h : f = "any" then some ⟨.agg .any c, by subst h; exact sd_any hb.1 hb.2 hs hc⟩
                    else if h : f = "max" then some ⟨.agg .max c, by subst h; exact sd_max hb.1 hb.2 hs hc⟩
                    else if h : f = "min" then some ⟨.agg .min c, by subst h; exact sd_min hb.1 hb.2 hs hc⟩
                    else none
                  | none => none)) else none
            | [a, b] => if hs : notStar a = true ∧ notStar b = true then
                (if h : f = "isinstance" then (match b with
                  | .Name T q3 => (match isB_ p T, cE n p a with
                    | some ⟨hT⟩, some ⟨ca, ha⟩ =>
                      if h2 : T = "int" then some ⟨.isi ca .int, by subst h h2; exact sd_isi (t := .int) hb.1 hb.2 hT.1 hT.2 (by decide +kernel) (by decide) (by decide) hs.1 ha⟩
                      else if h2 : T = "bool" then some ⟨.isi ca .bool, by subst h h2; exact sd_isi (t := .bool) hb.1 hb.2 hT.1 hT.2 (by decide +kernel) (by decide) (by decide) hs.1 ha⟩
                      else if h2 : T = "str" then some ⟨.isi ca .str, by subst h h2; exact sd_isi (t := .str) hb.1 hb.2 hT.1 hT.2 (by decide +kernel) (by decide) (by decide) hs.1 ha⟩
                      else if h2 : T = "tuple" then some ⟨.isi ca .tuple, by subst h h2; exact sd_isi (t := .tuple) hb.1 hb.2 hT.1 hT.2 (by decide +kernel) (by decide) (by decide) hs.1 ha⟩
                      else none
                    | _, _ => none)
                  | _ => none)
                else (match cE n p a, cE n p b with
                  | some ⟨ca, ha⟩, some ⟨cb, hb'⟩ =>
                    if h : f = "min" then some ⟨.fn2 .min ca cb, by subst h; exact sd_min2 hb.1 hb.2 hs.1 hs.2 ha hb'⟩
                    else if h : f = "max" then some ⟨.fn2 .max ca cb, by subst h; exact sd_max2 hb.1 hb.2 hs.1 hs.2 ha hb'⟩
                    else none
                  | _, _ => none)) else none
            | _ => none)
          | none => (match es with
            | [a, b] => (match glbIn f p.G with
              | some ⟨.fn id, hm⟩ => if hs : (notStar a = true ∧ notStar b = true) ∧ GlbOk p f then (if h : id = "math.gcd" then (match cE n p a, cE n p b with
                | some ⟨ca, ha⟩, some ⟨cb, hb'⟩ => some ⟨.fn2 .gcd ca cb, by subst h; exact sd_gcd hm hs.2.1 hs.2.2 hs.1.1 hs.1.2 ha hb'⟩
                | _, _ => none) else none) else none
              | _ => none)
            | _ => none)
      | _ => none
def cO : Nat → (p : Pl) → (e : Option Expr) → Option { c : CO // SdO p e c }
  | 0, _, _ => none
  | n + 1, p, none => some ⟨.none, so_none⟩
  | n + 1, p, some e => match cE n p e with
    | some ⟨c, h⟩ => some ⟨_, so_some h⟩
    | none => none
def cA : Nat → (p : Pl) → (es : List Expr) → Option { c : CEs // SdA p es c }
  | 0, _, _ => none
  | n + 1, p, [] => some ⟨.nil, sa_nil⟩
  | n + 1, p, e :: es => if hs : notStar e = true then (match cE n p e, cA n p es with
    | some ⟨c, h⟩, some ⟨cs, hs'⟩ => some ⟨_, sa_cons h hs' (fun env => star_cons hs es env)⟩
    | _, _ => none) else none
def cR : Nat → (p : Pl) → (e : Expr) → Option { c : CR // SdR p e c }
  | 0, _, _ => none
  | n + 1, p, e => match cQ n p e with
    | some ⟨q, h⟩ => some ⟨_, sr_q h⟩
    | none => match cE n p e with
      | some ⟨c, h⟩ => some ⟨_, sr_e h⟩
      | none => none
def cQ : Nat → (p : Pl) → (e : Expr) → Option { c : CQ // SdQ p e c }
  | 0, _, _ => none
  | n + 1, p, e => match e with
    | .List es q => match cA n p es with
      | some ⟨c, h⟩ => some ⟨_, sq_disp h⟩
      | none => none
    | .ListComp elt [⟨tg, iter, [], 0⟩] scope q =>
      if hs : blkC p.N p.sc scope (ownOf p scope) = true ∧ notSet iter = true then (match cI n p tg iter, cN (p.within scope) tg, cE n (p.within scope) elt with
        | some ⟨ii, hi⟩, some ⟨g, hg⟩, some ⟨ce, he⟩ => if h : storeB p scope g = true ∧ inOwn (ownOf p scope) g = true then some ⟨_, sq_comp hi hs.1 hg h.1 h.2 he hs.2⟩ else none
        | _, _, _ => none) else none
    | .ListComp elt [⟨tg, iter, [c], 0⟩] scope q =>
      if hs : blkC p.N p.sc scope (ownOf p scope) = true ∧ notSet iter = true then (match cI n p tg iter, cN (p.within scope) tg, cE n (p.within scope) elt, cT n (p.within scope) c with
        | some ⟨ii, hi⟩, some ⟨g, hg⟩, some ⟨ce, he⟩, some ⟨ct, ht⟩ => if h : storeB p scope g = true ∧ inOwn (ownOf p scope) g = true then some ⟨_, sq_compIf hi hs.1 hg h.1 h.2 he hs.2 ht⟩ else none
        | _, _, _, _ => none) else none
    | .BinOp a .Add b q => if looksList 20 a || looksList 20 b then (match cR n p a, cR n p b with
      | some ⟨ca, ha⟩, some ⟨cb, hb⟩ => some ⟨_, sq_cat ha hb⟩
      | _, _ => none) else none
    | .Subscript a (.Slice none none (some (.UnaryOp .USub (.Constant (.int 1) k p1) p2)) p3) q => match cR n p a with
      | some ⟨ca, ha⟩ => some ⟨_, sq_rev ha⟩
      | none => none
    | .Call (.Name f q2) [.Call (.Name f2 q3) es2 [] q4] [] q => match isB_ p f, isB_ p f2 with
      | some ⟨hb⟩, some ⟨hb2⟩ => if h : f = "list" ∧ f2 = "range" then (match es2 with
          | [a] => if hs : notStar a = true then (match cE n p a with
            | some ⟨ca, ha⟩ => some ⟨.listRg (.lit (.int 0)) ca, by obtain ⟨h1, h2⟩ := h; subst h1 h2; exact sq_listRg1 hb.1 hb.2 hb2.1 hb2.2 hs ha⟩
            | none => none) else none
          | [a, b] => if hs : notStar a = true ∧ notStar b = true then (match cE n p a, cE n p b with
            | some ⟨ca, ha⟩, some ⟨cb, hb'⟩ => some ⟨.listRg ca cb, by obtain ⟨h1, h2⟩ := h; subst h1 h2; exact sq_listRg2 hb.1 hb.2 hb2.1 hb2.2 hs.1 hs.2 ha hb'⟩
            | _, _ => none) else none
          | _ => none)
        else if hf : f = "list" ∨ f = "sorted" then (match cR n p (.Call (.Name f2 q3) es2 [] q4) with
          | some ⟨c, hc⟩ =>
            if h : f = "list" then some ⟨.list c, by subst h; exact sq_list hb.1 hb.2 rfl hc⟩
            else if h : f = "sorted" then some ⟨.sorted c, by subst h; exact sq_sorted hb.1 hb.2 rfl hc⟩
            else none
          | none => none) else none
      | some ⟨hb⟩, none => if hf : f = "list" ∨ f = "sorted" then (match cR n p (.Call (.Name f2 q3) es2 [] q4) with
          | some ⟨c, hc⟩ =>
            if h : f = "list" then some ⟨.list c, by subst h; exact sq_list hb.1 hb.2 rfl hc⟩
            else if h : f = "sorted" then some ⟨.sorted c, by subst h; exact sq_sorted hb.1 hb.2 rfl hc⟩
            else none
          | none => none) else none
      | _, _ => none
    | .Call (.Name f q2) [e] [] q => match isB_ p f with
      | some ⟨hb⟩ => if hs : notStar e = true ∧ (f = "list" ∨ f = "sorted") then (match cR n p e with
          | some ⟨c, hc⟩ =>
            if h : f = "list" then some ⟨.list c, by subst h; exact sq_list hb.1 hb.2 hs.1 hc⟩
            else if h : f = "sorted" then some ⟨.sorted c, by subst h; exact sq_sorted hb.1 hb.2 hs.1 hc⟩
            else none
          | none => none) else none
      | none => none
    | _ => none
def cI : Nat → (p : Pl) → (tg e : Expr) → Option { c : CI // SdI p tg e c }
  | 0, _, _, _ => none
  | n + 1, p, tg, e => match e with
    | .Call (.Name f q) [a] [] pos => (match isB_ p f with
      | some ⟨hb⟩ => if h : f = "range" ∧ notStar a = true then (match cE n p a with
          | some ⟨ca, ha⟩ => some ⟨.rg (.lit (.int 0)) ca, by obtain ⟨h1, h2⟩ := h; subst h1; exact si_rg1 (pos2 := pos) hb.1 hb.2 h2 ha⟩
          | none => none)
        else (match cR n p (.Call (.Name f q) [a] [] pos) with
          | some ⟨c, h⟩ => some ⟨_, si_r h⟩
          | none => none)
      | none => (match cR n p (.Call (.Name f q) [a] [] pos) with
          | some ⟨c, h⟩ => some ⟨_, si_r h⟩
          | none => none))
    | .Call (.Name f q) [a, b] [] pos => (match isB_ p f with
      | some ⟨hb⟩ => if h : f = "range" ∧ notStar a = true ∧ notStar b = true then (match cE n p a, cE n p b with
          | some ⟨ca, ha⟩, some ⟨cb, hb'⟩ => some ⟨.rg ca cb, by obtain ⟨h1, h2, h3⟩ := h; subst h1; exact si_rg2 (pos2 := pos) hb.1 hb.2 h2 h3 ha hb'⟩
          | _, _ => none)
        else (match cR n p (.Call (.Name f q) [a, b] [] pos) with
          | some ⟨c, h⟩ => some ⟨_, si_r h⟩
          | none => none)
      | none => (match cR n p (.Call (.Name f q) [a, b] [] pos) with
          | some ⟨c, h⟩ => some ⟨_, si_r h⟩
          | none => none))
    | e => (match cR n p e with
      | some ⟨c, h⟩ => some ⟨_, si_r h⟩
      | none => none)
def cC : Nat → (p : Pl) → (e : Expr) → Option { c : CE // SdC p e c ∧ ∀ C ρ S d S', evE C c ρ S = .ok d S' → isB d = true }
  | 0, _, _ => none
  | n + 1, p, e => match e with
    | .Compare a [.Is] [.Constant .none j q2] q => (match cE n p a with
      | some ⟨ca, ha⟩ => some ⟨_, sc_isN ha, b_isN⟩
      | none => none)
    | .Compare a [.IsNot] [.Constant .none j q2] q => (match cE n p a with
      | some ⟨ca, ha⟩ => some ⟨_, sc_notN ha, b_notN⟩
      | none => none)
    | .Compare a [.In] [b] q => if hm : behindInMarks .In b = false then (match cE n p a, cR n p b with
      | some ⟨ca, ha⟩, some ⟨cb, hb⟩ => some ⟨_, sc_in hm ha hb, b_in⟩
      | _, _ => none) else none
    | .Compare a [.NotIn] [b] q => if hm : behindInMarks .NotIn b = false then (match cE n p a, cR n p b with
      | some ⟨ca, ha⟩, some ⟨cb, hb⟩ => some ⟨_, sc_notIn hm ha hb, b_notIn⟩
      | _, _ => none) else none
    | .Compare a [op] [b] q => (match copOf op, cE n p a, cE n p b with
      | some ⟨o, ho⟩, some ⟨ca, ha⟩, some ⟨cb, hb⟩ => some ⟨.cmp o ca cb, by subst ho; exact sc_cmp o ha hb, b_cmp⟩
      | _, _, _ => none)
    | .Compare a [op, op2] [b, c] q => (match copOf op, copOf op2, cE n p a, cE n p b, cE n p c with
      | some ⟨o, ho⟩, some ⟨o2, ho2⟩, some ⟨ca, ha⟩, some ⟨cb, hb⟩, some ⟨cc, hc⟩ => if hm : lastMarks [op, op2] [b, c] = false then some ⟨.chn o o2 ca cb cc, by subst ho ho2; exact sc_chn o o2 hm ha hb hc, b_chn⟩ else none
      | _, _, _, _, _ => none)
    | _ => none
def cT : Nat → (p : Pl) → (e : Expr) → Option { c : CT // SdT p e c }
  | 0, _, _ => none
  | n + 1, p, e => match e with
    | .UnaryOp .Not a q => (match cT n p a with
      | some ⟨c, h⟩ => some ⟨_, st_not h⟩
      | none => none)
    | .BoolOp op vs q => (match cW n p (.BoolOp op vs q) with
      | some ⟨c, h⟩ => some ⟨c, st_w h⟩
      | none => none)
    | .Compare a ops bs q => (match cC n p (.Compare a ops bs q) with
      | some ⟨c, h⟩ => some ⟨.v c, h.1.test h.2⟩
      | none => none)
    | e => if hp : plainTest e = true then (match cE n p e with
      | some ⟨c, h⟩ => some ⟨_, st_plain hp h⟩
      | none => none) else none
def cW : Nat → (p : Pl) → (e : Expr) → Option { c : CT // SdW p e c }
  | 0, _, _ => none
  | n + 1, p, e => match e with
    | .BoolOp .And [a] q => (match cT n p a with
      | some ⟨c, h⟩ => some ⟨c, sw_and1 h⟩
      | none => none)
    | .BoolOp .Or [a] q => (match cT n p a with
      | some ⟨c, h⟩ => some ⟨c, sw_or1 h⟩
      | none => none)
    | .BoolOp .And (a :: b :: r) q => (match cT n p a, cW n p (.BoolOp .And (b :: r) q) with
      | some ⟨ca, ha⟩, some ⟨cb, hb⟩ => some ⟨_, sw_and ha hb⟩
      | _, _ => none)
    | .BoolOp .Or (a :: b :: r) q => (match cT n p a, cW n p (.BoolOp .Or (b :: r) q) with
      | some ⟨ca, ha⟩, some ⟨cb, hb⟩ => some ⟨_, sw_or ha hb⟩
      | _, _ => none)
    | _ => none
end
end PQ

/-! The compiler of statements; whole defs. -/
namespace PQ
open PySem PySem.Spec PyProof.Rows L2
/-- a comprehension's parts -/
def asgLc0 (m : Nat) (p : Pl) (x : Str) (q2 : Pos) (q : Pos) (elt tg iter : Expr) (scope : Scope) (q3 : Pos) : Option { c : CS // SdS p (.Assign [.Name x q2] (.ListComp elt [⟨tg, iter, [], 0⟩] scope q3) q) c } :=
  if hs : blkC p.N p.sc scope (ownOf p scope) = true ∧ notSet iter = true ∧ p.sc.names.lookup x = some .local ∧ swapB p.sc x scope q2.line q3.line = true then (match idxN p x, cI m p tg iter, cN (p.within scope) tg, cE m (p.within scope) elt with
    | some ⟨j, hj⟩, some ⟨ii, hi⟩, some ⟨g, hg⟩, some ⟨ce, he⟩ => if h : storeB p scope g = true ∧ inOwn (ownOf p scope) g = true then some ⟨_, s_setLc hj hs.2.2.1 hs.2.2.2 hi hs.1 hg h.1 h.2 he hs.2.1⟩ else none
    | _, _, _, _ => none) else none
def asgLc1 (m : Nat) (p : Pl) (x : Str) (q2 : Pos) (q : Pos) (elt tg iter c : Expr) (scope : Scope) (q3 : Pos) : Option { r : CS // SdS p (.Assign [.Name x q2] (.ListComp elt [⟨tg, iter, [c], 0⟩] scope q3) q) r } :=
  if hs : blkC p.N p.sc scope (ownOf p scope) = true ∧ notSet iter = true ∧ p.sc.names.lookup x = some .local ∧ swapB p.sc x scope q2.line q3.line = true then (match idxN p x, cI m p tg iter, cN (p.within scope) tg, cE m (p.within scope) elt, cT m (p.within scope) c with
    | some ⟨j, hj⟩, some ⟨ii, hi⟩, some ⟨g, hg⟩, some ⟨ce, he⟩, some ⟨ct, ht⟩ => if h : storeB p scope g = true ∧ inOwn (ownOf p scope) g = true then some ⟨_, s_setLcIf hj hs.2.2.1 hs.2.2.2 hi hs.1 hg h.1 h.2 he hs.2.1 ht⟩ else none
    | _, _, _, _, _ => none) else none
def asgGs (m : Nat) (p : Pl) (x : Str) (q2 : Pos) (q : Pos) (elt : Expr) (scope : Scope) (q3 : Pos) : (gs : List Comprehension) → Option { c : CS // SdS p (.Assign [.Name x q2] (.ListComp elt gs scope q3) q) c }
  | [⟨tg, iter, ifs, a⟩] => if ha : a = 0 then (match ifs with
      | [] => by subst ha; exact asgLc0 m p x q2 q elt tg iter scope q3
      | [c] => by subst ha; exact asgLc1 m p x q2 q elt tg iter c scope q3
      | _ => none) else none
  | _ => none
def asgName (m : Nat) (p : Pl) (x : Str) (q2 : Pos) (e : Expr) (q : Pos) : Option { c : CS // SdS p (.Assign [.Name x q2] e q) c } :=
  if hsw : swB p.sc e x q2.line = false then (match nameAt p x, cE m p e with
    | some ⟨j, hj⟩, some ⟨c, h⟩ => some ⟨_, s_setN hj h (fun env he => swB_ok hsw env he)⟩
    | _, _ => none)
  else (match e with
    | .ListComp elt gs scope q3 => asgGs m p x q2 q elt scope q3 gs
    | _ => none)
def nm? : (e : Expr) → Option { x : Str × Pos // e = .Name x.1 x.2 }
  | .Name x q => some ⟨(x, q), rfl⟩
  | _ => none
def asgPar (m : Nat) (p : Pl) (q q2 q3 : Pos) (k k2 : Nat) (e1 e2 a b : Expr) : Option { c : CS // SdS p (.Assign [.Tuple [e1, e2] k q2] (.Tuple [a, b] k2 q3) q) c } := match nm? e1, nm? e2 with
  | some ⟨x, hx⟩, some ⟨y, hy⟩ => (match idxN p x.1, idxN p y.1, cE m p a, cE m p b with
    | some ⟨j, hj⟩, some ⟨k', hk⟩, some ⟨ca, ha⟩, some ⟨cb, hb⟩ => if h : j ≠ k' ∧ p.sc.names.lookup x.1 = some .local ∧ p.sc.names.lookup y.1 = some .local ∧ notStar a = true ∧ notStar b = true ∧ swpS p.sc [.Name x.1 x.2, .Name y.1 y.2] [a, b] = some (some [x.1, y.1]) then
        some ⟨.par j k' ca cb, by subst hx hy; exact s_par hj hk h.1 h.2.1 h.2.2.1 h.2.2.2.1 h.2.2.2.2.1 ha hb (fun env he => swpS_ok h.2.2.2.2.2 env he)⟩ else none
    | _, _, _, _ => none)
  | _, _ => none
def asgTT (m : Nat) (p : Pl) (es vs : List Expr) (q q2 q3 : Pos) (k k2 : Nat) : Option { c : CS // SdS p (.Assign [.Tuple es k q2] (.Tuple vs k2 q3) q) c } :=
  if hw : swpS p.sc es vs = some none then (match namesAt p es, cE m p (.Tuple vs k2 q3) with
    | some ⟨is, hi⟩, some ⟨c, h⟩ => some ⟨_, s_setT hi h (fun env he => swpS_ok hw env he)⟩
    | _, _ => none)
  else (match es with
    | [e1, e2] => (match vs with
      | [a, b] => asgPar m p q q2 q3 k k2 e1 e2 a b
      | _ => none)
    | _ => none)
def notTup : Expr → Bool
  | .Tuple .. => false
  | _ => true
theorem sw_no {ts : Expr} {e : Expr} (h : notTup e = true) (env : Env) : swappedStores [ts] e env = pure none := by
  cases e <;> first | (cases h; done) | (cases ts <;> rfl)
def asgTup (m : Nat) (p : Pl) (es : List Expr) (k : Nat) (q2 : Pos) (e : Expr) (q : Pos) : Option { c : CS // SdS p (.Assign [.Tuple es k q2] e q) c } :=
  if hw : notTup e = true then (match namesAt p es, cE m p e with
    | some ⟨is, hi⟩, some ⟨c, h⟩ => some ⟨_, s_setT hi h (fun env _ => sw_no hw env)⟩
    | _, _ => none)
  else (match e with
    | .Tuple vs k2 q3 => asgTT m p es vs q q2 q3 k k2
    | _ => none)
def asgSub (m : Nat) (p : Pl) (o i : Expr) (q2 : Pos) (e : Expr) (q : Pos) : Option { c : CS // SdS p (.Assign [.Subscript o i q2] e q) c } :=
  if hn : notSlice i = true then (match cE m p o, cE m p i, cE m p e with
    | some ⟨co, ho⟩, some ⟨ci, hi⟩, some ⟨c, h⟩ => some ⟨_, s_sub2 hn ho hi h⟩
    | _, _, _ => none) else none
def cAsg (m : Nat) (p : Pl) (e : Expr) (q : Pos) : (t : Expr) → Option { c : CS // SdS p (.Assign [t] e q) c }
  | .Name x q2 => asgName m p x q2 e q
  | .Tuple es k q2 => asgTup m p es k q2 e q
  | .Subscript o i q2 => asgSub m p o i q2 e q
  | _ => none
def cAug (m : Nat) (p : Pl) (op : Operator) (e : Expr) (q : Pos) : (t : Expr) → Option { c : CS // SdS p (.AugAssign t op e q) c }
  | .Name x q2 => (match bopOf op, nameAt p x, cE m p e with
      | some ⟨f, hf⟩, some ⟨j, hj⟩, some ⟨c, h⟩ => some ⟨.aug j f c, by subst hf; exact s_aug hj h⟩
      | _, _, _ => none)
  | .Subscript o i q2 => if hn : notSlice i = true then (match bopOf op, cE m p o, cE m p i, cE m p e with
      | some ⟨f, hf⟩, some ⟨co, ho⟩, some ⟨ci, hi⟩, some ⟨c, h⟩ => some ⟨.augS co ci f c, by subst hf; exact s_augS hn ho hi h⟩
      | _, _, _, _ => none) else none
  | _ => none
mutual
def cS (m : Nat) : Nat → (p : Pl) → (s : Stmt) → Option { c : CS // SdS p s c }
  | 0, _, _ => none
  | n + 1, p, s => match s with
    | .Pass q => some ⟨.pass, s_pass⟩
    | .Break q => some ⟨.brk, s_brk⟩
    | .Continue q => some ⟨.cont, s_cont⟩
    | .Return r q => (match r with
      | some e => (match cE m p e with
        | some ⟨c, h⟩ => some ⟨_, s_ret h⟩
        | none => none)
      | none => none)
    | .Expr e q => if hn : notComp e = true then (match cE m p e with
      | some ⟨c, h⟩ => some ⟨_, s_ex hn h⟩
      | none => none) else none
    | .If t a b q => (match cT m p t, cSs m n p a, cSs m n p b with
      | some ⟨ct, ht⟩, some ⟨ca, ha⟩, some ⟨cb, hb⟩ => some ⟨_, s_if ht ha hb⟩
      | _, _, _ => none)
    | .For tg iter b oe q => (match oe with
      | [] => if hs : notSet iter = true then (match cI m p tg iter, cN p tg, cSs m n p b with
        | some ⟨ii, hi⟩, some ⟨g, hg⟩, some ⟨cb, hb⟩ => some ⟨_, s_for hs hi hg hb⟩
        | _, _, _ => none) else none
      | _ => none)
    | .While t b oe q => (match oe with
      | [] => (match cT m p t, cSs m n p b with
        | some ⟨ct, ht⟩, some ⟨cb, hb⟩ => some ⟨_, s_while ht hb⟩
        | _, _ => none)
      | _ => none)
    | .AugAssign t op e q => cAug m p op e q t
    | .Assign ts e q => (match ts with
      | [t] => cAsg m p e q t
      | _ => none)
    | _ => none
def cSs (m : Nat) : Nat → (p : Pl) → (s : List Stmt) → Option { c : CSs // SdSs p s c }
  | 0, _, _ => none
  | n + 1, p, [] => some ⟨.nil, ss_nil⟩
  | n + 1, p, s :: ss => (match cS m n p s, cSs m n p ss with
    | some ⟨c, h⟩, some ⟨cs, hs⟩ => some ⟨_, ss_cons h hs⟩
    | _, _ => none)
end

/-! ### whole defs -/
/-- a def: its name, its names by slot, how many of them are parameters, its body -/
structure Fn where
  name : Str
  N : List Str
  ps : Nat
  body : CSs
def startE (n : Nat) (ds : List D) : En := ds.map some ++ List.replicate (n - ds.length) none
mutual
/-- no number of the store from n on -/
def below (n : Nat) : D → Prop
  | .tup ds => belows n ds
  | .fix ds => belows n ds
  | .ref i => i < n
  | _ => True
def belows (n : Nat) : List D → Prop
  | [] => True
  | d :: ds => below n d ∧ belows n ds
end
def Ob.below (n : Nat) : Ob → Prop
  | .lst ds => belows n ds
/-- what a call made is out of reach behind it -/
def Safe (S : Sto) (d : D) (S' : Sto) : Prop := below S.length d ∧ S.length ≤ S'.length ∧ ∀ (i : Nat) o, i < S.length → S'[i]? = some o → S[i]? = some o ∨ o.below S.length
noncomputable def gc (S : Sto) (d : D) (S' : Sto) : Res D := open Classical in if Safe S d S' then .ok d (S'.take S.length) else .ok d S'
/-- a body's run -/
noncomputable def runB (C : Orc) (f : Fn) (ds : List D) (S : Sto) : Res D := (evSs C f.body (startE f.N.length ds) S).bind fun fl S' => match fl with
  | .nx _ => .ok .non S'
  | .rt d => .ok d S'
  | _ => .bad
noncomputable def callF (C : Orc) (f : Fn) (ds : List D) (S : Sto) : Res D := if ds.length = f.ps then (runB C f ds S).bind fun d S' => gc S d S' else .bad
/-- the defs, calls at most k deep -/
noncomputable def orc (T : List Fn) : Nat → Orc
  | 0, _, _, _ => .bad
  | k + 1, f, ds, S => match T[f]? with
    | some fn => callF (orc T k) fn ds S
    | none => .bad

section
variable {K : Fg} {μ μ' : List Addr} {H H' : Hp} {S S' : Sto}
mutual
theorem below_rp : ∀ (d : D) (v : V), Rp K μ H d v → below μ.length d
  | .non, _, _ => trivial
  | .bl _, _, _ => trivial
  | .int _, _, _ => trivial
  | .str _, _, _ => trivial
  | .tup ds, _, ⟨_, vs, _, _, h, _⟩ => belows_rp ds vs h
  | .fix ds, _, ⟨_, vs, _, _, h, _⟩ => belows_rp ds vs h
  | .ref i, _, ⟨_, _, h⟩ => (List.getElem?_eq_some_iff.mp h).1
theorem belows_rp : ∀ (ds : List D) (vs : List V), RpA K μ H ds vs → belows μ.length ds
  | [], _, _ => trivial
  | d :: ds, _, ⟨v, r, _, h1, h2⟩ => ⟨below_rp d v h1, belows_rp ds r h2⟩
end
mutual
theorem rp_below {n : Nat} (hn : n ≤ μ.length) : ∀ (d : D) (v : V), below n d → Rp K μ H d v → Rp K (μ.take n) H d v
  | .non, _, _, h => h
  | .bl _, _, _, h => h
  | .int _, _, _, h => h
  | .str _, _, _, h => h
  | .tup ds, _, b, ⟨a, vs, h1, h2, h3, h4⟩ => ⟨a, vs, h1, h2, rps_below hn ds vs b h3, h4⟩
  | .fix ds, _, b, ⟨a, vs, h1, h2, h3, h4⟩ => ⟨a, vs, h1, h2, rps_below hn ds vs b h3, h4⟩
  | .ref i, _, b, ⟨a, h1, h2⟩ => ⟨a, h1, by
    rw [List.getElem?_take_of_lt b]
    exact h2⟩
theorem rps_below {n : Nat} (hn : n ≤ μ.length) : ∀ (ds : List D) (vs : List V), belows n ds → RpA K μ H ds vs → RpA K (μ.take n) H ds vs
  | [], _, _, h => h
  | d :: ds, _, b, ⟨v, r, h1, h2, h3⟩ => ⟨v, r, h1, rp_below hn d v b.1 h2, rps_below hn ds r b.2 h3⟩
end
theorem gc_ok (hs : StOk K μ H S) (e : Ext K μ H μ' H') (hs' : StOk K μ' H' S') {d : D} {v : V} (r : Rp K μ' H' d v) {Q : V → Hp → Prop} (h : Po K μ H (gc S d S') fun d _ μ' H' => ∀ v, Rp K μ' H' d v → Q v H') : Q v H' := by
  unfold gc at h
  split at h
  · rename_i sf
    obtain ⟨b, l, old⟩ := sf
    obtain ⟨l', rfl, n'⟩ := e.pre
    have et : (μ ++ l').take S.length = μ := by rw [← hs.len, List.take_left' rfl]
    refine h μ H' ⟨⟨[], by simp, fun a z => nomatch z⟩, e.alive, e.fr, e.tup, e.fix⟩ ⟨by rw [List.length_take, hs.len]; omega, hs.nd, fun i o a e1 e2 => ?_⟩ v ?_
    · have hi : i < S.length := by rw [← hs.len]; exact (List.getElem?_eq_some_iff.mp e2).1
      rw [List.getElem?_take_of_lt hi] at e1
      have bo : o.below S.length := by
        rcases old i o hi e1 with q | q
        · have := hs.ob i o a q e2
          cases o with
          | lst ds =>
            obtain ⟨vs, _, k, _⟩ := this
            rw [← hs.len]
            exact belows_rp ds vs k
        · exact q
      have k := hs'.ob i o a e1 (by rw [List.getElem?_append_left (by rw [hs.len]; exact hi)]; exact e2)
      cases o with
      | lst ds =>
        obtain ⟨vs, k1, k2, k3⟩ := k
        refine ⟨vs, k1, ?_, k3⟩
        have := rps_below (n := S.length) (by rw [List.length_append, hs.len]; omega) ds vs bo k2
        rw [et] at this
        exact this
    · have := rp_below (n := S.length) (by rw [List.length_append, hs.len]; omega) d v b r
      rw [et] at this
      exact this
  · exact h μ' H' e hs' v r
theorem start_ok {N : List Str} {ds : List D} {vs : List V} (r : RpA K μ H ds vs) : EnvOk K μ H (startE N.length ds) (L2.start N vs) := by
  unfold startE L2.start
  have hl := r.length
  refine ⟨by simp only [List.length_append, List.length_map, List.length_replicate]; omega, fun i d q => ?_⟩
  by_cases hi : i < ds.length
  · rw [List.getElem?_append_left (by rw [List.length_map]; exact hi), List.getElem?_map] at q
    cases e : ds[i]? with
    | none => rw [e] at q; cases q
    | some d' =>
      rw [e] at q
      cases q
      obtain ⟨v, e1, r1⟩ := r.get e
      refine ⟨v, ?_, r1⟩
      rw [List.getElem?_append_left (by rw [List.length_map]; omega), List.getElem?_map, e1]
      rfl
  · rw [List.getElem?_append_right (by rw [List.length_map]; omega), List.getElem?_replicate] at q
    split at q <;> cases q
end
/-- what a def keeps, from its body -/
theorem fn_ok {P : Program} {w : World} {K : Fg} {mg : Str → Option Value} {base : Heap} {C : Orc} {p : Pl} {fn : Fn} {i k : Nat} {x qual : Str} {params : Arguments} {body : List Stmt} {scope : Scope} {f : Addr} {fd : FuncData} (F : FunD K x qual params body scope [] [] f fd) (ps : List Str)
    (Sc : FnScope fn.N ps scope) (hps : ps.length = fn.ps) (hN : p.N = fn.N) (hsc : p.sc = scope) (hb : SdSs p body fn.body) (hC : ∀ ds S, C i ds S = .bad → False → False)
    (blt : ∀ x, x ∈ p.B → mg x = none)
    (glb : ∀ x g, (x, g) ∈ p.G → GvOk K mg x g)
    (fns : ∀ (j : Nat) y, p.T[j]? = some y → ∃ g gd ps, mg y = some (.ref g) ∧ FnOk P w K mg base CX0 k g gd ps (spC K C j) ∧ PySem.W.keepIn K (.ref g) = true ∧ Binds K gd ps [])
    (hk : k ≤ 300) : FnOk P w K mg base CX0 (k + 1) f fd ps (fun vs H Q _ => ∃ μ ds S, StOk K μ H S ∧ RpA K μ H ds vs ∧ Po K μ H (callF C fn ds S) fun d _ μ' H' => ∀ v, Rp K μ' H' d v → Q v H') := by
  refine F.ok Sc (fun vs H Q E h => ?_) (fun cdv A outer s H vs Q E hr h => ?_)
  · obtain ⟨μ, ds, S, _, r, h⟩ := h
    unfold callF at h
    split at h
    · rename_i hl
      rw [← r.length, hl, hps]
    · exact h.elim
  · obtain ⟨μ, ds, S, hs, r, h⟩ := h
    unfold callF at h
    split at h
    · rename_i hl
      generalize hX : cxOf CX0 P w K mg base fn.N qual scope f cdv A outer s H E = X
      have gd : Good X.nox p C := by
        subst hX
        refine ⟨rfl, Sc.nd, ?_, PassesOwn.never, hN.symm, hsc.symm, blt, glb, fun j y hy => ?_⟩
        · have := hr.units
          have h2 := hr.un
          show (A.deeper _).units + 80 < cLine
          omega
        · obtain ⟨g, gd, ps, h1, h2, h3, h4⟩ := fns j y hy
          exact ⟨g, gd, ps, k, h1, h2, hr, h3, h4⟩
      have hfn : X.nox.fn = (fun _ => true) := by subst hX; rfl
      have hK : X.nox.K = K := by subst hX; rfl
      refine ⟨_, (hb X.nox C gd hfn).nox, ?_⟩
      rw [hK]
      refine ⟨μ, startE fn.N.length ds, S, start_ok r, hs, ?_⟩
      have h : Po K μ H ((runB C fn ds S).bind fun d S' => gc S d S') _ := h
      unfold runB at h
      generalize evSs C fn.body (startE fn.N.length ds) S = rr at h
      cases rr with
      | ok fl S' =>
        intro μ' H' e s'
        cases fl with
        | nx ρ => exact fun σ he => gc_ok hs e s' (d := .non) (v := .non) rfl h
        | rt d => exact fun v rv => gc_ok hs e s' rv h
        | bk ρ => exact (h : False).elim
        | ct ρ => exact (h : False).elim
      | exc c fs S' => exact h.elim
      | bad => exact h.elim
    · exact h.elim
end PQ

/-! A whole program. -/
namespace PQ
open PySem PySem.Spec PyProof.Rows L2
/-- a def of the program as it stands behind the top -/
structure DefOk (K : Fg) (mg : Str → Option Value) (T B : List Str) (G : List (Str × Gv)) (fn : Fn) : Prop where
  ex : ∃ (f : Addr) (fd : FuncData) (qual : Str) (ps : List Str) (params : Arguments) (body : List Stmt) (scope : Scope), mg fn.name = some (.ref f) ∧ FunD K fn.name qual params body scope [] [] f fd ∧ FnScope fn.N ps scope ∧ ps.length = fn.ps ∧
    SdSs ⟨T, B, fn.N, scope, G⟩ body fn.body ∧ ∀ (s : Shared) (us : List Value), us.length = ps.length → BindsTo s fd ⟨us, []⟩ (ps.zip us)
theorem binds_of {K : Fg} {fd : FuncData} {ps : List Str} (h : ∀ (s : Shared) (us : List Value), us.length = ps.length → BindsTo s fd ⟨us, []⟩ (ps.zip us)) : Binds K fd ps [] := fun s us _ hl => by
  rw [List.append_nil] at hl ⊢
  exact h s us hl
theorem all_ok {P : Program} {w : World} {K : Fg} {mg : Str → Option Value} {base : Heap} {T : List Fn} {names B : List Str} {Gs : List (Str × Gv)} (hn : T.map (·.name) = names) (hB : ∀ x ∈ B, mg x = none) (hG : ∀ x g, (x, g) ∈ Gs → GvOk K mg x g) (hT : ∀ fn ∈ T, DefOk K mg names B Gs fn) :
    ∀ (k : Nat), k ≤ 300 → ∀ (i : Nat) fn, T[i]? = some fn → ∃ f fd ps, mg fn.name = some (.ref f) ∧ FnOk P w K mg base CX0 k f fd ps (spC K (orc T k) i) ∧ PySem.W.keepIn K (.ref f) = true ∧ Binds K fd ps []
  | 0, _, i, fn, h => by
    obtain ⟨f, fd, qual, ps, params, body, scope, h1, h2, h3, h4, h5, h6⟩ := (hT fn (List.mem_of_getElem? h)).ex
    refine ⟨f, fd, ps, h1, ⟨fun vs H Q E z => ?_, fun A outer s H args us vs Q E hr e0 hb r z => ?_⟩, h2.kp, binds_of h6⟩
    · obtain ⟨μ, ds, S, _, _, z⟩ := z
      exact z.elim
    · obtain ⟨μ, ds, S, _, _, z⟩ := z
      exact z.elim
  | k + 1, hk, i, fn, h => by
    obtain ⟨f, fd, qual, ps, params, body, scope, h1, h2, h3, h4, h5, h6⟩ := (hT fn (List.mem_of_getElem? h)).ex
    exact ⟨f, fd, ps, h1, step k hk i fn h f fd qual ps params body scope h2 h3 h4 h5 (all_ok hn hB hG hT k (by omega)), h2.kp, binds_of h6⟩
where
  step (k : Nat) (hk : k + 1 ≤ 300) (i : Nat) (fn : Fn) (h : T[i]? = some fn) (f : Addr) (fd : FuncData) (qual : Str) (ps : List Str) (params : Arguments) (body : List Stmt) (scope : Scope) (h2 : FunD K fn.name qual params body scope [] [] f fd) (h3 : FnScope fn.N ps scope) (h4 : ps.length = fn.ps)
      (h5 : SdSs ⟨names, B, fn.N, scope, Gs⟩ body fn.body) (ih : ∀ (i : Nat) fn, T[i]? = some fn → ∃ f fd ps, mg fn.name = some (.ref f) ∧ FnOk P w K mg base CX0 k f fd ps (spC K (orc T k) i) ∧ PySem.W.keepIn K (.ref f) = true ∧ Binds K fd ps []) : FnOk P w K mg base CX0 (k + 1) f fd ps (spC K (orc T (k + 1)) i) := by
    have F := fn_ok (P := P) (w := w) (mg := mg) (base := base) (C := orc T k) (p := ⟨names, B, fn.N, scope, Gs⟩) (fn := fn) (i := i) (k := k) h2 ps h3 h4 rfl rfl h5 (fun _ _ _ z => z) hB hG (fun j y hy => by
      have hy : names[j]? = some y := hy
      rw [← hn, List.getElem?_map] at hy
      cases e : T[j]? with
      | none => rw [e] at hy; cases hy
      | some gn =>
        rw [e] at hy
        cases hy
        obtain ⟨g, gd, qs, k1, k2, k3, k4⟩ := ih j gn e
        exact ⟨g, gd, qs, k1, k2, k3, k4⟩) (by omega)
    refine F.imp fun vs H Q E z => ?_
    obtain ⟨μ, ds, S, s1, s2, s3⟩ := z
    refine ⟨μ, ds, S, s1, s2, ?_⟩
    have e : orc T (k + 1) i ds S = callF (orc T k) fn ds S := by
      show (match T[i]? with
        | some fn => callF (orc T k) fn ds S
        | none => Res.bad) = _
      rw [h]
    rw [e] at s3
    exact s3
/-- a def, from the head's facts and the compiler's word -/
theorem def_ok {K : Fg} {h : Heap} {mg : Str → Option Value} {fn : List He.DefD} {fa : List He.Fa} {names B N ps : List Str} {Gs : List (Str × Gv)} {x : Str} {n : Nat} {body : CSs} (X : K.In h) (G : h.Ns mainGlobals mg) (c : He.SaysD fa fn K) (i : Nat) {st : Stmt} (hd : fn[i]? = some ⟨(x, none), x, x, defArgs st, defBody st, defScope st, [], []⟩) (j : Nat) (hj : fa[j]? = some (.glo x))
    (hc : (cSs 60 60 ⟨names, B, N, defScope st, Gs⟩ (defBody st)).map (·.val) = some body) (hs : FnScope N ps (defScope st)) (hp : ps.length = n)
    (hb : ∀ (kV doc pm : Value) (an : Option Addr) (cdv ct : Value) (us : List Value), us.length = ps.length → bindArgs (PySem.W.fnOf x x (defArgs st) (defBody st) (defScope st) .none kV doc pm an cdv ct) ⟨us, []⟩ = pure (ps.zip us)) : DefOk K mg names B Gs ⟨x, N, n, body⟩ := by
  obtain ⟨fd, F⟩ := c.def_ i (d := ⟨(x, none), x, x, defArgs st, defBody st, defScope st, [], []⟩) hd
  have hm := He.glo_ok X G (c.fact j (f := .glo x) hj)
  cases e : cSs 60 60 ⟨names, B, N, defScope st, Gs⟩ (defBody st) with
  | none => rw [e] at hc; cases hc
  | some r =>
    rw [e] at hc
    have hr : r.val = body := Option.some.inj hc
    exact ⟨_, fd, x, ps, _, _, _, hm, F, hs, hp, by
      rw [← hr]
      exact r.property, fun s us hl => FunD.bindsA F hb s us hl⟩
/-- the law's def: what the language says of it, for every script -/
theorem law_end {l : PySem.W.OpenLaw} {w : World} {K : Fg} {h : Heap} {mg : Str → Option Value} {T : List Fn} {names B : List Str} {Gs : List (Str × Gv)} {fa : Addr} {lawFn : Fn} {i k n : Nat} (KX : K.In h) (hn : T.map (·.name) = names) (hB : ∀ x ∈ B, mg x = none) (hG : ∀ x g, (x, g) ∈ Gs → GvOk K mg x g) (hT : ∀ fn ∈ T, DefOk K mg names B Gs fn)
    (hl : T[i]? = some lawFn) (hx : lawFn.N.take 1 = ([("script" : Str)] : List Str)) (hp : lawFn.ps = 1) (hmg : mg lawFn.name = some (.ref fa)) (hk : k + 1 ≤ 300) (hns : n ≤ sizeLine)
    (true_ : ∀ ns : List Int, ns.length ≤ n → ∃ S, orc T (k + 1) i [.fix (ns.map .int)] [] = .ok (.bl true) S) :
    ∃ (K : PySem.W.Frag) (fd : FuncData) (sp : Sp), K.In h ∧ (∀ (s : Shared) (u : Value), BindsTo s fd ⟨[u], []⟩ [(("script" : Str), u)]) ∧
        (∀ (H : Hp) (a : Addr) (ns : List Int), ns.length ≤ n → Only H → SqL K H a (ns.map V.int) → sp [.ref a] H (fun v _ => v = .bl true) fun _ _ _ => False) ∧
        ∀ base : Heap, K.In base → base.Ns mainGlobals mg → FnOk l.prog w K mg base CX0 (k + 1) fa fd ([("script" : Str)] : List Str) sp := by
  obtain ⟨f, fd, qual, ps, params, body, scope, h1, h2, h3, h4, h5, h6⟩ := (hT lawFn (List.mem_of_getElem? hl)).ex
  have ef : fa = f := by
    rw [hmg] at h1
    cases h1
    rfl
  subst ef
  have eps : ps = ([("script" : Str)] : List Str) := by
    have := h3.pre
    rw [h4, hp, hx] at this
    exact this.symm
  subst eps
  refine ⟨K, fd, spC K (orc T (k + 1)) i, KX, fun s u => h6 s [u] rfl, fun H a ns hl' hO hS => ?_, fun base _ _ => all_ok.step hn hB hG 0 k hk i lawFn hl fa fd qual _ params body scope h2 h3 h4 h5 (all_ok hn hB hG hT k (by omega))⟩
  have hf : Fix K H a (ns.map V.int) := by
    rcases hS with (q | ⟨o, q⟩) | q
    · rcases hO a with z | ⟨o, xs, z⟩
      · rw [z] at q; cases q
      · rw [z] at q; cases q
    · exact .inl ⟨o, q⟩
    · exact .inr q
  have hr : ∀ ns : List Int, RpA K [] H (ns.map D.int) (ns.map V.int) := fun ns => by
    induction ns with
    | nil => exact rfl
    | cons x xs ih => exact .cons rfl ih
  obtain ⟨S, hS'⟩ := true_ ns hl'
  refine ⟨[], [.fix (ns.map .int)], [], ⟨rfl, List.nodup_nil, fun i o a e _ => by simp at e⟩, .cons ⟨a, _, rfl, hf, hr ns, by rw [List.length_map]; omega⟩ .nil, ?_⟩
  rw [hS']
  exact fun μ' H' _ _ v rv => rv
end PQ

/-! What a run says, by what is asked of its end. -/
namespace PQ
open PySem PySem.Spec PyProof.Rows L2
/-- it ends well, and then .. -/
def W {α : Type} (r : Res α) (Q : α → Sto → Prop) : Prop := ∃ a S, r = .ok a S ∧ Q a S
section
variable {α β : Type} {Q : α → Sto → Prop} {a : α} {S : Sto}
@[simp] theorem W_ok : W (.ok a S) Q = Q a S := propext ⟨fun ⟨_, _, e, h⟩ => by cases e; exact h, fun h => ⟨_, _, rfl, h⟩⟩
@[simp] theorem W_bad : W (.bad : Res α) Q = False := propext ⟨fun ⟨_, _, e, _⟩ => (nomatch e), False.elim⟩
@[simp] theorem W_exc {c : Str} {fs : List (Str × D)} : W (.exc c fs S : Res α) Q = False := propext ⟨fun ⟨_, _, e, _⟩ => (nomatch e), False.elim⟩
@[simp] theorem W_bind {r : Res β} {f : β → Sto → Res α} : W (r.bind f) Q = W r fun b S => W (f b S) Q := by
  cases r with
  | ok b S => simp [Res.bind]
  | exc c fs S => simp [Res.bind]
  | bad => simp [Res.bind]
@[simp] theorem W_ask {p : Prop} {r : Res α} : W (ask p r) Q = (p ∧ W r Q) := by
  unfold ask
  split <;> rename_i h
  · exact propext ⟨fun x => ⟨h, x⟩, fun x => x.2⟩
  · rw [W_bad]
    exact propext ⟨False.elim, fun x => h x.1⟩
@[simp] theorem may_some {f : β → Res α} {b : β} : may (some b) f = f b := rfl
@[simp] theorem may_none {f : β → Res α} : may none f = .bad := rfl
theorem W_mono {Q' : α → Sto → Prop} {r : Res α} (h : W r Q) (k : ∀ a S, Q a S → Q' a S) : W r Q' := by
  obtain ⟨a, S, e, h⟩ := h
  exact ⟨a, S, e, k _ _ h⟩
theorem W_ite {c : Prop} [Decidable c] {r s : Res α} (h1 : c → W r Q) (h2 : ¬c → W s Q) : W (if c then r else s) Q := by
  split
  · exact h1 ‹_›
  · exact h2 ‹_›
end
/-- a walk: each turn goes on -/
theorem loopS_w {C : Sto → Prop} {f : D → En → Sto → Res Fl} {Q : Fl → Sto → Prop} (I : List D → En → Sto → Prop)
    (h : ∀ d ds ρ S, I (d :: ds) ρ S → C S ∧ W (f d ρ S) fun fl S' => (∃ ρ', (fl = .nx ρ' ∨ fl = .ct ρ') ∧ I ds ρ' S'))
    (h0 : ∀ ρ S, I [] ρ S → C S ∧ Q (.nx ρ) S) : ∀ ds ρ S, I ds ρ S → W (loopS C f ds ρ S) Q
  | [], ρ, S, i => by
    rw [loopS, W_ask, W_ok]
    exact h0 ρ S i
  | d :: ds, ρ, S, i => by
    rw [loopS, W_ask, W_bind]
    obtain ⟨k1, k2⟩ := h d ds ρ S i
    refine ⟨k1, W_mono k2 fun fl S' ⟨ρ', e, k⟩ => ?_⟩
    rcases e with e | e <;> subst e <;> exact loopS_w I h h0 ds ρ' S' k
/-- a comprehension without a test: each item makes one -/
theorem loopQ_w {C : Sto → Prop} {f : D → Sto → Res (Option D)} {Q : List D → Sto → Prop} (I : List D → List D → Sto → Prop)
    (h : ∀ d ds r S, I (d :: ds) r S → C S ∧ W (f d S) fun o S' => I ds (r ++ o.toList) S')
    (h0 : ∀ r S, I [] r S → C S ∧ Q r S) (ds : List D) (S : Sto) (i : I ds [] S) : W (loopQ C f ds S) Q := by
  suffices ∀ (ds r : List D) S, I ds r S → W (loopQ C f ds S) fun x S => Q (r ++ x) S by
    have := this ds [] S i
    simpa using this
  intro ds
  induction ds with
  | nil =>
    intro r S i
    rw [loopQ, W_ask, W_ok, List.append_nil]
    exact h0 r S i
  | cons d ds ih =>
    intro r S i
    rw [loopQ, W_ask, W_bind]
    obtain ⟨k1, k2⟩ := h d ds r S i
    refine ⟨k1, W_mono k2 fun o S' k => ?_⟩
    rw [W_bind]
    refine W_mono (ih _ _ k) fun x S'' q => ?_
    rw [W_ok]
    cases o with
    | none => simpa using q
    | some o => simpa using q
/-- what a def hands back -/
theorem callF_w {C : Orc} {fn : Fn} {ds : List D} {S : Sto} {Q : D → Sto → Prop} (hl : ds.length = fn.ps) (h : W (runB C fn ds S) fun d S' => W (gc S d S') Q) : W (callF C fn ds S) Q := by
  unfold callF
  rw [if_pos hl, W_bind]
  exact h
@[simp] theorem gc_self {S : Sto} {d : D} : gc S d S = .ok d S := by
  unfold gc
  split <;> simp
theorem gc_same {S S' : Sto} {d : D} (h : S'.length = S.length) : gc S d S' = .ok d S' := by
  unfold gc
  split
  · rw [← h, List.take_length]
  · rfl
/-- what stands anew behind the old store, and is not handed back, is forgotten -/
theorem gc_app {S g : Sto} {d : D} (h : below S.length d) : gc S d (S ++ g) = .ok d S := by
  unfold gc
  rw [if_pos]
  · simp
  · refine ⟨h, by simp, fun i o hi e => .inl ?_⟩
    rw [← e, List.getElem?_append_left hi]
end PQ

/-! One step of a run, by its syntax. -/
namespace PQ
open PySem PySem.Spec PyProof.Rows L2
variable {C : Orc} {ρ : En} {S : Sto}
theorem w_var {i : Nat} {d : D} {Q : D → Sto → Prop} (k : ρ[i]? = some (some d))(h : Q d S) : W (evE C (.var i) ρ S) Q := by
  simpa [evE, k] using h
theorem w_lit {d : D} {Q : D → Sto → Prop} (h : Q d S) : W (evE C (.lit d) ρ S) Q := by
  simpa [evE] using h
theorem w_tup {es : CEs} {Q : D → Sto → Prop} (h : W (evEs C es ρ S) fun ds S1 => ds.length ≤ sizeLine ∧ Q (.tup ds) S1) : W (evE C (.tup es) ρ S) Q := by
  simpa [evE] using h
theorem w_alloc {q : CQ} {Q : D → Sto → Prop} (h : W (evQ C q ρ S) fun ds S1 => Q (.ref S1.length) (S1 ++ [.lst ds])) : W (evE C (.alloc q) ρ S) Q := by
  simpa [evE] using h
theorem w_bin {o : Bop} {a b : CE} {Q : D → Sto → Prop} (h : W (evE C a ρ S) fun x S1 => W (evE C b ρ S1) fun y S2 => W (binD o x y S2) Q) : W (evE C (.bin o a b) ρ S) Q := by
  simpa [evE] using h
theorem w_cmp {o : Cop} {a b : CE} {Q : D → Sto → Prop} (h : W (evE C a ρ S) fun x S1 => W (evE C b ρ S1) fun y S2 => W (cmpD o x y S2) Q) : W (evE C (.cmp o a b) ρ S) Q := by
  simpa [evE] using h
noncomputable def chnK (C : Orc) (p : Cop) (c : CE) (ρ : En) (y : D) (z : D) (S3 : Sto) : Res D := match z with
  | .bl true => (evE C c ρ S3).bind fun w S4 => cmpD p y w S4
  | .bl false => .ok (.bl false) S3
  | _ => .bad
theorem w_chn {o p : Cop} {a b c : CE} {Q : D → Sto → Prop} (h : W (evE C a ρ S) fun x S1 => W (evE C b ρ S1) fun y S2 => W (cmpD o x y S2) fun z S3 => W (chnK C p c ρ y z S3) Q) : W (evE C (.chn o p a b c) ρ S) Q := by
  have e : evE C (.chn o p a b c) ρ S = (evE C a ρ S).bind fun x S1 => (evE C b ρ S1).bind fun y S2 => (cmpD o x y S2).bind fun z S3 => chnK C p c ρ y z S3 := rfl
  rw [e]
  simpa only [W_bind] using h
theorem w_chnB {p : Cop} {c : CE} {y : D} {k : Bool} {Q : D → Sto → Prop} (h1 : k = true → W (evE C c ρ S) fun w S4 => W (cmpD p y w S4) Q) (h2 : k = false → Q (.bl false) S) : W (chnK C p c ρ y (.bl k) S) Q := by
  cases k
  · exact (W_ok (Q := Q)).symm ▸ h2 rfl
  · show W (Res.bind _ _) _
    rw [W_bind]
    exact h1 rfl
theorem w_isN {a : CE} {Q : D → Sto → Prop} (h : W (evE C a ρ S) fun x S1 => Q (.bl (isNon x)) S1) : W (evE C (.isN a) ρ S) Q := by
  simpa [evE] using h
theorem w_notN {a : CE} {Q : D → Sto → Prop} (h : W (evE C a ρ S) fun x S1 => Q (.bl (!isNon x)) S1) : W (evE C (.notN a) ρ S) Q := by
  simpa [evE] using h
theorem w_inr {a : CE} {r : CR} {Q : D → Sto → Prop} (h : W (evE C a ρ S) fun x S1 => W (evR C r ρ S1) fun v S2 => W (may (inD x v S2) fun b => .ok (.bl b) S2) Q) : W (evE C (.inr a r) ρ S) Q := by
  simpa [evE] using h
theorem w_notInr {a : CE} {r : CR} {Q : D → Sto → Prop} (h : W (evE C a ρ S) fun x S1 => W (evR C r ρ S1) fun v S2 => W (may (inD x v S2) fun b => .ok (.bl (!b)) S2) Q) : W (evE C (.notInr a r) ρ S) Q := by
  simpa [evE] using h
theorem w_and {a b : CE} {Q : D → Sto → Prop} (h : W (evE C a ρ S) fun x S1 => W (may (tru S1 x) fun k => if k = true then evE C b ρ S1 else .ok x S1) Q) : W (evE C (.and a b) ρ S) Q := by
  simpa [evE] using h
theorem w_or {a b : CE} {Q : D → Sto → Prop} (h : W (evE C a ρ S) fun x S1 => W (may (tru S1 x) fun k => if k = true then .ok x S1 else evE C b ρ S1) Q) : W (evE C (.or a b) ρ S) Q := by
  simpa [evE] using h
theorem w_not {a : CE} {Q : D → Sto → Prop} (h : W (evE C a ρ S) fun x S1 => W (may (tru S1 x) fun k => .ok (.bl (!k)) S1) Q) : W (evE C (.not a) ρ S) Q := by
  simpa [evE] using h
theorem w_ife {t : CT} {a b : CE} {Q : D → Sto → Prop} (h : W (evT C t ρ S) fun k S1 => W (if k = true then evE C a ρ S1 else evE C b ρ S1) Q) : W (evE C (.ife t a b) ρ S) Q := by
  simpa [evE] using h
theorem w_idx {a b : CE} {Q : D → Sto → Prop} (h : W (evE C a ρ S) fun x S1 => W (evE C b ρ S1) fun y S2 => W (idxD x y S2) Q) : W (evE C (.idx a b) ρ S) Q := by
  simpa [evE] using h
theorem w_slc {a : CE} {lo hi : CO} {Q : D → Sto → Prop} (h : W (evE C a ρ S) fun x S1 => W (evO C lo ρ S1) fun l S2 => W (evO C hi ρ S2) fun u S3 => W (slcD x l u S3) Q) : W (evE C (.slc a lo hi) ρ S) Q := by
  simpa [evE] using h
theorem w_call {f : Nat} {es : CEs} {Q : D → Sto → Prop} (h : W (evEs C es ρ S) fun ds S1 => W (C f ds S1) Q) : W (evE C (.call f es) ρ S) Q := by
  simpa [evE] using h
theorem w_fn1 {f : F1} {a : CE} {Q : D → Sto → Prop} (h : W (evE C a ρ S) fun x S1 => W (fn1D f x S1) Q) : W (evE C (.fn1 f a) ρ S) Q := by
  simpa [evE] using h
theorem w_fn2 {f : F2} {a b : CE} {Q : D → Sto → Prop} (h : W (evE C a ρ S) fun x S1 => W (evE C b ρ S1) fun y S2 => W (fn2D f x y S2) Q) : W (evE C (.fn2 f a b) ρ S) Q := by
  simpa [evE] using h
theorem w_agg {f : Ag} {r : CR} {Q : D → Sto → Prop} (h : W (evR C r ρ S) fun v S1 => W (aggD f v S1) Q) : W (evE C (.agg f r) ρ S) Q := by
  simpa [evE] using h
theorem w_isi {a : CE} {t : Ty} {Q : D → Sto → Prop} (h : W (evE C a ρ S) fun x S1 => W (may (tyB t S1 x) fun b => .ok (.bl b) S1) Q) : W (evE C (.isi a t) ρ S) Q := by
  simpa [evE] using h
theorem w_app {l x : CE} {Q : D → Sto → Prop} (h : W (evE C l ρ S) fun o S1 => W (withL S1 o fun _ _ => (evE C x ρ S1).bind fun v S2 => appD o v S2) Q) : W (evE C (.app l x) ρ S) Q := by
  simpa [evE] using h
theorem w_ext {l : CE} {r : CR} {Q : D → Sto → Prop} (h : W (evE C l ρ S) fun o S1 => W (withL S1 o fun _ _ => (evR C r ρ S1).bind fun v S2 => extD o v S2) Q) : W (evE C (.ext l r) ρ S) Q := by
  simpa [evE] using h
theorem w_pop {l : CE} {Q : D → Sto → Prop} (h : W (evE C l ρ S) fun o S1 => W (popD o S1) Q) : W (evE C (.pop l) ρ S) Q := by
  simpa [evE] using h
theorem w_popAt {l i : CE} {Q : D → Sto → Prop} (h : W (evE C l ρ S) fun o S1 => W (withL S1 o fun _ _ => (evE C i ρ S1).bind fun v S2 => popAtD o v S2) Q) : W (evE C (.popAt l i) ρ S) Q := by
  simpa [evE] using h
theorem w_join {s : Str} {r : CR} {Q : D → Sto → Prop} (h : W (evR C r ρ S) fun v S1 => W (may (sqOf S1 v) fun ds => may (strsOf ds) fun ys => ask ((ys.map (·.length)).sum + ys.length * s.length ≤ 16777216) (.ok (.str (Txt.join s ys)) S1)) Q) : W (evE C (.join s r) ρ S) Q := by
  simpa [evE] using h
theorem w_tix {a b : CE} {Q : D → Sto → Prop} (h : W (evE C a ρ S) fun x S1 => ∃ ds, x = .tup ds ∧ W (evE C b ρ S1) fun y S2 => W (tixD ds y S2) Q) : W (evE C (.tix a b) ρ S) Q := by
  simp only [evE, W_bind]
  refine W_mono h fun x S1 ⟨i, e, k⟩ => ?_
  subst e
  simpa using k
theorem w_neg {a : CE} {Q : D → Sto → Prop} (h : W (evE C a ρ S) fun x S1 => ∃ i, x = .int i ∧ Q (.int (-i)) S1) : W (evE C (.neg a) ρ S) Q := by
  simp only [evE, W_bind]
  refine W_mono h fun x S1 ⟨i, e, k⟩ => ?_
  subst e
  simpa using k
theorem w_oN {Q : Option Int → Sto → Prop} (h : Q none S) : W (evO C (.none) ρ S) Q := by
  simpa [evO] using h
theorem w_oS {a : CE} {Q : Option Int → Sto → Prop} (h : W (evE C a ρ S) fun x S1 => ∃ i, x = .int i ∧ Q (some i) S1) : W (evO C (.some a) ρ S) Q := by
  simp only [evO, W_bind]
  refine W_mono h fun x S1 ⟨i, e, k⟩ => ?_
  subst e
  simpa using k
theorem w_nil {Q : List D → Sto → Prop} (h : Q [] S) : W (evEs C (.nil) ρ S) Q := by
  simpa [evEs] using h
theorem w_cons {a : CE} {r : CEs} {Q : List D → Sto → Prop} (h : W (evE C a ρ S) fun d S1 => W (evEs C r ρ S1) fun ds S2 => Q (d :: ds) S2) : W (evEs C (.cons a r) ρ S) Q := by
  simpa [evEs] using h
theorem w_disp {es : CEs} {Q : List D → Sto → Prop} (h : W (evEs C es ρ S) fun ds S1 => ds.length ≤ sizeLine ∧ Q ds S1) : W (evQ C (.disp es) ρ S) Q := by
  simpa [evQ] using h
theorem w_comp {own : List Nat} {g : CN} {it : CI} {elt : CE} {Q : List D → Sto → Prop} (h : W (evI C it ρ S) fun t S1 => t.items.length ≤ sizeLine ∧ W (loopQ t.still (fun d S2 => may (bindN g d (wipeE ρ own) S2) fun ρ' => (evE C elt ρ' S2).bind fun x S3 => .ok (some x) S3) t.items S1) Q) : W (evQ C (.comp own g it elt) ρ S) Q := by
  simpa [evQ] using h
theorem w_compIf {own : List Nat} {g : CN} {it : CI} {c : CT} {elt : CE} {Q : List D → Sto → Prop} (h : W (evI C it ρ S) fun t S1 => t.items.length ≤ sizeLine ∧ W (loopQ t.still (fun d S2 => may (bindN g d (wipeE ρ own) S2) fun ρ' => (evT C c ρ' S2).bind fun k S3 => if k = true then (evE C elt ρ' S3).bind fun x S4 => .ok (some x) S4 else .ok none S3) t.items S1) Q) : W (evQ C (.compIf own g it c elt) ρ S) Q := by
  simpa [evQ] using h
theorem w_cat {a b : CR} {Q : List D → Sto → Prop} (h : W (evR C a ρ S) fun v S1 => W (evR C b ρ S1) fun w S2 => W (may (trOf S2 v) fun x => may (trOf S2 w) fun y => ask (x.length + y.length ≤ sizeLine) (.ok (x ++ y) S2)) Q) : W (evQ C (.cat a b) ρ S) Q := by
  simpa [evQ] using h
theorem w_sorted {r : CR} {Q : List D → Sto → Prop} (h : W (evR C r ρ S) fun v S1 => W (may (lsOf S1 v) fun ds => sortD S1 ds) Q) : W (evQ C (.sorted r) ρ S) Q := by
  simpa [evQ] using h
theorem w_list {r : CR} {Q : List D → Sto → Prop} (h : W (evR C r ρ S) fun v S1 => W (may (lstOf S1 v) fun ds => .ok ds S1) Q) : W (evQ C (.list r) ρ S) Q := by
  simpa [evQ] using h
theorem w_rev {r : CR} {Q : List D → Sto → Prop} (h : W (evR C r ρ S) fun v S1 => W (may (lsOf S1 v) fun ds => .ok ds.reverse S1) Q) : W (evQ C (.rev r) ρ S) Q := by
  simpa [evQ] using h
theorem w_listRg {a b : CE} {Q : List D → Sto → Prop} (h : W (evE C a ρ S) fun x S1 => W (evE C b ρ S1) fun y S2 => ∃ i j, x = .int i ∧ y = .int j ∧ RgOk i j ∧ Q (rgD i j) S2) : W (evQ C (.listRg a b) ρ S) Q := by
  simp only [evQ, W_bind]
  refine W_mono h fun x S1 h => W_mono h fun y S2 ⟨i, j, e1, e2, k⟩ => ?_
  subst e1 e2
  simpa using k
theorem w_q {c : CQ} {Q : RV → Sto → Prop} (h : W (evQ C c ρ S) fun ds S1 => Q (.own ds) S1) : W (evR C (.q c) ρ S) Q := by
  simpa [evR] using h
theorem w_e {c : CE} {Q : RV → Sto → Prop} (h : W (evE C c ρ S) fun d S1 => Q (.val d) S1) : W (evR C (.e c) ρ S) Q := by
  simpa [evR] using h
theorem w_ir {c : CR} {Q : Itv → Sto → Prop} (h : W (evR C c ρ S) fun v S1 => W (may (itOf v S1) fun t => .ok t S1) Q) : W (evI C (.r c) ρ S) Q := by
  simpa [evI] using h
theorem w_rg {a b : CE} {Q : Itv → Sto → Prop} (h : W (evE C a ρ S) fun x S1 => W (evE C b ρ S1) fun y S2 => ∃ i j, x = .int i ∧ y = .int j ∧ (bd62 i ∧ bd62 j) ∧ Q ⟨rgD i j, none⟩ S2) : W (evI C (.rg a b) ρ S) Q := by
  simp only [evI, W_bind]
  refine W_mono h fun x S1 h => W_mono h fun y S2 ⟨i, j, e1, e2, k⟩ => ?_
  subst e1 e2
  simpa using k
theorem w_tv {e : CE} {Q : Bool → Sto → Prop} (h : W (evE C e ρ S) fun x S1 => W (may (tru S1 x) fun k => .ok k S1) Q) : W (evT C (.v e) ρ S) Q := by
  simpa [evT] using h
theorem w_tand {a b : CT} {Q : Bool → Sto → Prop} (h : W (evT C a ρ S) fun k S1 => W (if k = true then evT C b ρ S1 else .ok false S1) Q) : W (evT C (.and a b) ρ S) Q := by
  simpa [evT] using h
theorem w_tor {a b : CT} {Q : Bool → Sto → Prop} (h : W (evT C a ρ S) fun k S1 => W (if k = true then .ok true S1 else evT C b ρ S1) Q) : W (evT C (.or a b) ρ S) Q := by
  simpa [evT] using h
theorem w_tnot {a : CT} {Q : Bool → Sto → Prop} (h : W (evT C a ρ S) fun k S1 => Q (!k) S1) : W (evT C (.not a) ρ S) Q := by
  simpa [evT] using h
theorem w_set {i : Nat} {e : CE} {Q : Fl → Sto → Prop} (h : W (evE C e ρ S) fun d S1 => Q (.nx (ρ.set i (some d))) S1) : W (evS C (.set (.nm i) e) ρ S) Q := by
  simpa [evS, bindN] using h
theorem w_setT {is : List Nat} {e : CE} {Q : Fl → Sto → Prop} (h : W (evE C e ρ S) fun d S1 => W (may (bindN (.tup is) d ρ S1) fun ρ' => .ok (.nx ρ') S1) Q) : W (evS C (.set (.tup is) e) ρ S) Q := by
  simpa [evS] using h
theorem w_par {i j : Nat} {a b : CE} {Q : Fl → Sto → Prop} (h : W (evE C a ρ S) fun x S1 => W (evE C b ρ S1) fun y S2 => Q (.nx ((ρ.set i (some x)).set j (some y))) S2) : W (evS C (.par i j a b) ρ S) Q := by
  simpa [evS] using h
theorem w_sub {o i e : CE} {Q : Fl → Sto → Prop} (h : W (evE C e ρ S) fun d S1 => W (evE C o ρ S1) fun x S2 => W (evE C i ρ S2) fun y S3 => W (setD x y d S3) fun _ S4 => Q (.nx ρ) S4) : W (evS C (.sub o i e) ρ S) Q := by
  simpa [evS] using h
theorem w_aug {i : Nat} {p : Bop} {e : CE} {d : D} {Q : Fl → Sto → Prop} (k : ρ[i]? = some (some d))(h : W (evE C e ρ S) fun y S1 => W (augD p d y S1) fun z S2 => Q (.nx (ρ.set i (some z))) S2) : W (evS C (.aug i p e) ρ S) Q := by
  simpa [evS, k] using h
def augK (C : Orc) (ρ : En) (p : Bop) (e : CE) (x y : D) (S2 : Sto) (Q : Fl → Sto → Prop) : Prop := ∃ a ds j v, x = .ref a ∧ S2[a]? = some (.lst ds) ∧ y = .int j ∧ atI ds j = some v ∧ W (evE C e ρ S2) fun w S4 => W (augD p v w S4) fun z S5 => W (setD (.ref a) (.int j) z S5) fun _ S6 => Q (.nx ρ) S6
theorem w_augS {o i e : CE} {p : Bop} {Q : Fl → Sto → Prop} (h : W (evE C o ρ S) fun x S1 => W (evE C i ρ S1) fun y S2 => augK C ρ p e x y S2 Q) : W (evS C (.augS o i p e) ρ S) Q := by
  simp only [evS, W_bind]
  refine W_mono h fun x S1 h => W_mono h fun y S2 ⟨a, ds, j, v, e1, e2, e3, e4, k⟩ => ?_
  subst e1 e3
  simpa [withL, e2, e4] using k
theorem w_augK {e : CE} {p : Bop} {Q : Fl → Sto → Prop} {a : Nat} {ds : List D} {j : Int} {v : D} (k1 : S[a]? = some (.lst ds)) (k2 : atI ds j = some v) (h : W (evE C e ρ S) fun w S4 => W (augD p v w S4) fun z S5 => W (setD (.ref a) (.int j) z S5) fun _ S6 => Q (.nx ρ) S6) : augK C ρ p e (.ref a) (.int j) S Q := ⟨a, ds, j, v, rfl, k1, rfl, k2, h⟩
theorem w_ex {e : CE} {Q : Fl → Sto → Prop} (h : W (evE C e ρ S) fun _ S1 => Q (.nx ρ) S1) : W (evS C (.ex e) ρ S) Q := by
  simpa [evS] using h
theorem w_ret {e : CE} {Q : Fl → Sto → Prop} (h : W (evE C e ρ S) fun d S1 => Q (.rt d) S1) : W (evS C (.ret e) ρ S) Q := by
  simpa [evS] using h
theorem w_ite {t : CT} {a b : CSs} {Q : Fl → Sto → Prop} (h : W (evT C t ρ S) fun k S1 => W (if k = true then evSs C a ρ S1 else evSs C b ρ S1) Q) : W (evS C (.ite t a b) ρ S) Q := by
  simpa [evS] using h
theorem w_for {g : CN} {it : CI} {b : CSs} {Q : Fl → Sto → Prop} (h : W (evI C it ρ S) fun t S1 => W (loopS t.still (fun d ρ1 S2 => may (bindN g d ρ1 S2) fun ρ2 => evSs C b ρ2 S2) t.items ρ S1) Q) : W (evS C (.for g it b) ρ S) Q := by
  simpa [evS] using h
theorem w_while {t : CT} {b : CSs} {Q : Fl → Sto → Prop} (h : W (whileS (evT C t) (evSs C b) turns ρ S) Q) : W (evS C (.while t b) ρ S) Q := by
  simpa [evS] using h
theorem w_brk {Q : Fl → Sto → Prop} (h : Q (.bk ρ) S) : W (evS C (.brk) ρ S) Q := by
  simpa [evS] using h
theorem w_cont {Q : Fl → Sto → Prop} (h : Q (.ct ρ) S) : W (evS C (.cont) ρ S) Q := by
  simpa [evS] using h
theorem w_pass {Q : Fl → Sto → Prop} (h : Q (.nx ρ) S) : W (evS C (.pass) ρ S) Q := by
  simpa [evS] using h
theorem w_snil {Q : Fl → Sto → Prop} (h : Q (.nx ρ) S) : W (evSs C (.nil) ρ S) Q := by
  simpa [evSs] using h
noncomputable def seqK (C : Orc) (r : CSs) (fl : Fl) (S1 : Sto) : Res Fl := match fl with
  | .nx ρ' => evSs C r ρ' S1
  | f => .ok f S1
theorem w_scons {s : CS} {r : CSs} {Q : Fl → Sto → Prop} (h : W (evS C s ρ S) fun fl S1 => W (seqK C r fl S1) Q) : W (evSs C (.cons s r) ρ S) Q := by
  have e : evSs C (.cons s r) ρ S = (evS C s ρ S).bind fun fl S1 => seqK C r fl S1 := rfl
  rw [e, W_bind]
  exact h
theorem w_nx {r : CSs} {Q : Fl → Sto → Prop} (h : W (evSs C r ρ S) Q) : W (seqK C r (.nx ρ) S) Q := h
theorem w_rt {r : CSs} {d : D} {Q : Fl → Sto → Prop} (h : Q (.rt d) S) : W (seqK C r (.rt d) S) Q := w_mk h where
  w_mk {fl : Fl} (h : Q fl S) : W (.ok fl S) Q := (W_ok (Q := Q)).symm ▸ h
theorem w_bk {r : CSs} {Q : Fl → Sto → Prop} (h : Q (.bk ρ) S) : W (seqK C r (.bk ρ) S) Q := (W_ok (Q := Q)).symm ▸ h
theorem w_ct {r : CSs} {Q : Fl → Sto → Prop} (h : Q (.ct ρ) S) : W (seqK C r (.ct ρ) S) Q := (W_ok (Q := Q)).symm ▸ h
theorem v_add {i j : Int} {Q : D → Sto → Prop} (h : Q (.int (i + j)) S) : W (binD .add (.int i) (.int j) S) Q := by
  simpa [binD] using h
theorem v_sub {i j : Int} {Q : D → Sto → Prop} (h : Q (.int (i - j)) S) : W (binD .sub (.int i) (.int j) S) Q := by
  simpa [binD] using h
theorem v_band {i j : Int} {Q : D → Sto → Prop} (h : Q (.int (Builtin.bitAnd i j)) S) : W (binD .band (.int i) (.int j) S) Q := by
  simpa [binD] using h
theorem v_bor {i j : Int} {Q : D → Sto → Prop} (h : Q (.int (Builtin.bitOr i j)) S) : W (binD .bor (.int i) (.int j) S) Q := by
  simpa [binD] using h
theorem v_bxor {i j : Int} {Q : D → Sto → Prop} (h : Q (.int (Builtin.bitXor i j)) S) : W (binD .bxor (.int i) (.int j) S) Q := by
  simpa [binD] using h
theorem v_mul {i j : Int} {Q : D → Sto → Prop} (k : IntMulOk i j) (h : Q (.int (i * j)) S) : W (binD .mul (.int i) (.int j) S) Q := by
  simpa [binD, k] using h
theorem v_fdiv {i j : Int} {Q : D → Sto → Prop} (k : FDivOk i j) (h : Q (.int (i.fdiv j)) S) : W (binD .fdiv (.int i) (.int j) S) Q := by
  simpa [binD, k] using h
theorem v_mod {i j : Int} {Q : D → Sto → Prop} (k : j ≠ 0) (h : Q (.int (i.fmod j)) S) : W (binD .mod (.int i) (.int j) S) Q := by
  simpa [binD, k] using h
theorem v_pow {i j : Int} {Q : D → Sto → Prop} (k : CPow i j) (h : Q (.int (i ^ j.toNat)) S) : W (binD .pow (.int i) (.int j) S) Q := by
  simpa [binD, k] using h
theorem v_shl {i j : Int} {Q : D → Sto → Prop} (k : CPow i j) (h : Q (.int (i * 2 ^ j.toNat)) S) : W (binD .shl (.int i) (.int j) S) Q := by
  simpa [binD, k] using h
theorem v_shr {i j : Int} {Q : D → Sto → Prop} (k : 0 ≤ j) (h : Q (.int (i / 2 ^ j.toNat)) S) : W (binD .shr (.int i) (.int j) S) Q := by
  simpa [binD, k] using h
theorem v_addT {a b : List D} {Q : D → Sto → Prop} (k : a.length + b.length ≤ sizeLine) (h : Q (.tup (a ++ b)) S) : W (binD .add (.tup a) (.tup b) S) Q := by
  simpa [binD, k] using h
theorem v_addS {a b : Str} {Q : D → Sto → Prop} (k : a.length + b.length ≤ sizeLine) (h : Q (.str (a ++ b)) S) : W (binD .add (.str a) (.str b) S) Q := by
  simpa [binD, k] using h
theorem v_addL {i j : Nat} {a b : List D} {Q : D → Sto → Prop} (k1 : S[i]? = some (.lst a)) (k2 : S[j]? = some (.lst b)) (k : a.length + b.length ≤ sizeLine) (h : Q (.ref S.length) (S ++ [.lst (a ++ b)])) : W (binD .add (.ref i) (.ref j) S) Q := by
  simpa [binD, k, k1, k2] using h
theorem v_augAdd {i j : Int} {Q : D → Sto → Prop} (h : Q (.int (i + j)) S) : W (augD .add (.int i) (.int j) S) Q := by
  simpa [augD] using h
theorem v_augSub {i j : Int} {Q : D → Sto → Prop} (h : Q (.int (i - j)) S) : W (augD .sub (.int i) (.int j) S) Q := by
  simpa [augD] using h
theorem v_lt {i j : Int} {Q : D → Sto → Prop} (h : Q (.bl (decide (i < j))) S) : W (cmpD .lt (.int i) (.int j) S) Q := by
  simpa [cmpD, cmpI] using h
theorem v_le {i j : Int} {Q : D → Sto → Prop} (h : Q (.bl (decide (i ≤ j))) S) : W (cmpD .le (.int i) (.int j) S) Q := by
  simpa [cmpD, cmpI] using h
theorem v_gt {i j : Int} {Q : D → Sto → Prop} (h : Q (.bl (decide (j < i))) S) : W (cmpD .gt (.int i) (.int j) S) Q := by
  simpa [cmpD, cmpI] using h
theorem v_ge {i j : Int} {Q : D → Sto → Prop} (h : Q (.bl (decide (j ≤ i))) S) : W (cmpD .ge (.int i) (.int j) S) Q := by
  simpa [cmpD, cmpI] using h
theorem v_eq {i j : Int} {Q : D → Sto → Prop} (h : Q (.bl (decide (i = j))) S) : W (cmpD .eq (.int i) (.int j) S) Q := by
  simpa [cmpD, dEq, scalD, eqSc] using h
theorem v_ne {i j : Int} {Q : D → Sto → Prop} (h : Q (.bl (!decide (i = j))) S) : W (cmpD .ne (.int i) (.int j) S) Q := by
  simpa [cmpD, dEq, scalD, eqSc] using h
theorem v_eqS {i j : Str} {Q : D → Sto → Prop} (h : Q (.bl (decide (i = j))) S) : W (cmpD .eq (.str i) (.str j) S) Q := by
  simpa [cmpD, dEq, scalD, eqSc] using h
theorem v_neS {i j : Str} {Q : D → Sto → Prop} (h : Q (.bl (!decide (i = j))) S) : W (cmpD .ne (.str i) (.str j) S) Q := by
  simpa [cmpD, dEq, scalD, eqSc] using h
theorem v_eqB {i j : Bool} {Q : D → Sto → Prop} (h : Q (.bl (decide (i = j))) S) : W (cmpD .eq (.bl i) (.bl j) S) Q := by
  simpa [cmpD, dEq, scalD, eqSc] using h
theorem v_intI {i : Int} {Q : D → Sto → Prop} (h : Q (.int i) S) : W (fn1D .int (.int i) S) Q := by
  simpa [fn1D] using h
theorem v_intB {b : Bool} {Q : D → Sto → Prop} (h : Q (.int (if b = true then 1 else 0)) S) : W (fn1D .int (.bl b) S) Q := by
  simpa [fn1D] using h
theorem v_abs {i : Int} {Q : D → Sto → Prop} (h : Q (.int (if i < 0 then -i else i)) S) : W (fn1D .abs (.int i) S) Q := by
  simpa [fn1D] using h
theorem v_str {i : Int} {Q : D → Sto → Prop} (k : i.natAbs.log2 < 1920) (h : Q (.str (toString i)) S) : W (fn1D .str (.int i) S) Q := by
  simpa [fn1D, k] using h
theorem v_gcd {i j : Int} {Q : D → Sto → Prop} (h : Q (.int ((Nat.gcd i.natAbs j.natAbs : Nat) : Int)) S) : W (fn2D .gcd (.int i) (.int j) S) Q := by
  simpa [fn2D] using h
theorem v_min2 {i j : Int} {Q : D → Sto → Prop} (h : Q (.int (if j < i then j else i)) S) : W (fn2D .min (.int i) (.int j) S) Q := by
  simpa [fn2D] using h
theorem v_max2 {i j : Int} {Q : D → Sto → Prop} (h : Q (.int (if j > i then j else i)) S) : W (fn2D .max (.int i) (.int j) S) Q := by
  simpa [fn2D] using h
theorem v_idx {a : Nat} {ds : List D} {i : Int} {d : D} {Q : D → Sto → Prop} (k1 : S[a]? = some (.lst ds)) (k2 : atI ds i = some d) (h : Q d S) : W (idxD (.ref a) (.int i) S) Q := by
  simpa [idxD, k1, k2] using h
theorem v_idxT {ds : List D} {i : Int} {d : D} {Q : D → Sto → Prop} (k2 : atI ds i = some d) (h : Q d S) : W (idxD (.tup ds) (.int i) S) Q := by
  simpa [idxD, k2] using h
theorem v_idxF {ds : List D} {i : Int} {d : D} {Q : D → Sto → Prop} (k2 : atI ds i = some d) (h : Q d S) : W (idxD (.fix ds) (.int i) S) Q := by
  simpa [idxD, k2] using h
theorem v_slc {a : Nat} {ds : List D} {lo hi : Option Int} {Q : D → Sto → Prop} (k1 : S[a]? = some (.lst ds)) (h : Q (.ref S.length) (S ++ [.lst (cutD ds lo hi)])) : W (slcD (.ref a) lo hi S) Q := by
  simpa [slcD, k1] using h
theorem v_slcT {ds : List D} {lo hi : Option Int} {Q : D → Sto → Prop} (h : Q (.tup (cutD ds lo hi)) S) : W (slcD (.tup ds) lo hi S) Q := by
  simpa [slcD] using h
theorem v_app {a : Nat} {ds : List D} {v : D} {Q : D → Sto → Prop} (k1 : S[a]? = some (.lst ds)) (k2 : ds.length < sizeLine) (h : Q .non (S.set a (.lst (ds ++ [v])))) : W (appD (.ref a) v S) Q := by
  simpa [appD, withL, k1, k2] using h
theorem v_len {v : RV} {ds : List D} {Q : D → Sto → Prop} (k : sqOf S v = some ds) (h : Q (.int ds.length) S) : W (aggD .len v S) Q := by
  have e : aggD .len v S = .ok (.int ds.length) S := by
    cases v with
    | own xs =>
      have e : aggD .len (.own xs) S = may (sqOf S (.own xs)) fun ds => .ok (.int ds.length) S := rfl
      rw [e, k]
      rfl
    | val d =>
      cases d with
      | str z => simp [sqOf, lsOf] at k
      | non => simp [sqOf, lsOf] at k
      | bl z => simp [sqOf, lsOf] at k
      | int z => simp [sqOf, lsOf] at k
      | tup z =>
        have e : aggD .len (.val (.tup z)) S = may (sqOf S (.val (.tup z))) fun ds => .ok (.int ds.length) S := rfl
        rw [e, k]
        rfl
      | fix z =>
        have e : aggD .len (.val (.fix z)) S = may (sqOf S (.val (.fix z))) fun ds => .ok (.int ds.length) S := rfl
        rw [e, k]
        rfl
      | ref z =>
        have e : aggD .len (.val (.ref z)) S = may (sqOf S (.val (.ref z))) fun ds => .ok (.int ds.length) S := rfl
        rw [e, k]
        rfl
  rw [e, W_ok]
  exact h
theorem v_tuple {v : RV} {ds : List D} {Q : D → Sto → Prop} (k : sqOf S v = some ds) (h : Q (.tup ds) S) : W (aggD .tuple v S) Q := by
  simpa [aggD, k] using h
theorem v_sum {v : RV} {ds : List D} {ns : List Int} {Q : D → Sto → Prop} (k : lsOf S v = some ds) (k2 : intsOf ds = some ns) (h : Q (.int ns.sum) S) : W (aggD .sum v S) Q := by
  simpa [aggD, k, k2] using h
theorem v_all {v : RV} {ds : List D} {bs : List Bool} {Q : D → Sto → Prop} (k : lsOf S v = some ds) (k2 : boolsOf ds = some bs) (h : Q (.bl (bs.all id)) S) : W (aggD .all v S) Q := by
  simpa [aggD, k, k2] using h
theorem v_any {v : RV} {ds : List D} {bs : List Bool} {Q : D → Sto → Prop} (k : lsOf S v = some ds) (k2 : boolsOf ds = some bs) (h : Q (.bl (bs.any id)) S) : W (aggD .any v S) Q := by
  simpa [aggD, k, k2] using h
theorem v_max {v : RV} {ds : List D} {ns : List Int} {m : Int} {Q : D → Sto → Prop} (k : lsOf S v = some ds) (k2 : intsOf ds = some ns) (k3 : greatest ns = some m) (h : Q (.int m) S) : W (aggD .max v S) Q := by
  simpa [aggD, k, k2, k3] using h
theorem v_min {v : RV} {ds : List D} {ns : List Int} {m : Int} {Q : D → Sto → Prop} (k : lsOf S v = some ds) (k2 : intsOf ds = some ns) (k3 : least ns = some m) (h : Q (.int m) S) : W (aggD .min v S) Q := by
  simpa [aggD, k, k2, k3] using h
theorem v_set {a : Nat} {ds : List D} {i : Int} {j : Nat} {v : D} {Q : Unit → Sto → Prop} (k1 : S[a]? = some (.lst ds)) (k2 : ixN ds.length i = some j) (h : Q () (S.set a (.lst (ds.set j v)))) : W (setD (.ref a) (.int i) v S) Q := by
  simpa [setD, withL, k1, k2] using h
section
variable {α β : Type} {Q : α → Sto → Prop}
theorem w_may {o : Option β} {f : β → Res α} {b : β} (k : o = some b) (h : W (f b) Q) : W (may o f) Q := by
  rw [k, may_some]
  exact h
theorem w_ask {p : Prop} {r : Res α} (k : p) (h : W r Q) : W (ask p r) Q := by
  rw [W_ask]
  exact ⟨k, h⟩
theorem w_ok {a : α} (h : Q a S) : W (.ok a S) Q := by
  rw [W_ok]
  exact h
theorem w_bind {r : Res β} {f : β → Sto → Res α} (h : W r fun b S => W (f b S) Q) : W (r.bind f) Q := by
  rw [W_bind]
  exact h
theorem w_withL {a : Nat} {ds : List D} {f : Nat → List D → Res α} (k : S[a]? = some (.lst ds)) (h : W (f a ds) Q) : W (withL S (.ref a) f) Q := by
  simpa [withL, k] using h
theorem w_if {k : Bool} {A B : Res α} (h1 : k = true → W A Q) (h2 : k = false → W B Q) : W (if k = true then A else B) Q := by
  cases k
  · exact h2 rfl
  · exact h1 rfl
theorem w_ifd {p : Prop} {_ : Decidable p} {A B : Res α} (h1 : p → W A Q) (h2 : ¬p → W B Q) : W (if decide p = true then A else B) Q := w_if (fun h => h1 (of_decide_eq_true h)) fun h => h2 (of_decide_eq_false h)
theorem w_if_T {k : Bool} {A B : Res α} (hk : k = true) (h : W A Q) : W (if k = true then A else B) Q := by
  subst hk
  exact h
theorem w_if_F {k : Bool} {A B : Res α} (hk : k = false) (h : W B Q) : W (if k = true then A else B) Q := by
  subst hk
  exact h
theorem w_if_t {A B : Res α} (h : W A Q) : W (if true = true then A else B) Q := h
theorem w_if_f {A B : Res α} (h : W B Q) : W (if false = true then A else B) Q := h
theorem w_if_nt {A B : Res α} (h : W B Q) : W (if (!true) = true then A else B) Q := h
theorem w_if_nf {A B : Res α} (h : W A Q) : W (if (!false) = true then A else B) Q := h
theorem w_tru_b {b : Bool} {f : Bool → Res α} (h : W (f b) Q) : W (may (tru S (.bl b)) f) Q := h
theorem w_tru_i {i : Int} {f : Bool → Res α} (h : W (f (i != 0)) Q) : W (may (tru S (.int i)) f) Q := h
theorem w_tru_t {ds : List D} {f : Bool → Res α} (h : W (f (!ds.isEmpty)) Q) : W (may (tru S (.tup ds)) f) Q := h
theorem w_tru_r {i : Nat} {ds : List D} {f : Bool → Res α} (k : S[i]? = some (.lst ds)) (h : W (f (!ds.isEmpty)) Q) : W (may (tru S (.ref i)) f) Q := by
  simpa [tru, k] using h
end
/-- a body's end -/
noncomputable def retK (fl : Fl) (S : Sto) : Res D := match fl with
  | .nx _ => .ok .non S
  | .rt d => .ok d S
  | _ => .bad
theorem r_nx {Q : D → Sto → Prop} (h : Q .non S) : W (retK (.nx ρ) S) Q := (W_ok (Q := Q)).symm ▸ h
theorem r_rt {d : D} {Q : D → Sto → Prop} (h : Q d S) : W (retK (.rt d) S) Q := (W_ok (Q := Q)).symm ▸ h
/-- what a def hands back, its names laid out -/
theorem def_w {fn : Fn} {ds : List D} {ρ : En} {Q : D → Sto → Prop} (hl : ds.length = fn.ps) (hN : startE fn.N.length ds = ρ) (h : W (evSs C fn.body ρ S) fun fl S1 => W (retK fl S1) fun d S' => W (gc S d S') Q) : W (callF C fn ds S) Q := by
  subst hN
  refine callF_w hl ?_
  have e : runB C fn ds S = (evSs C fn.body (startE fn.N.length ds) S).bind fun fl S' => retK fl S' := rfl
  rw [e, W_bind]
  exact h
theorem orc_w {T : List Fn} {k f : Nat} {fn : Fn} {ds : List D} {ρ : En} {Q : D → Sto → Prop} (hf : T[f]? = some fn) (hl : ds.length = fn.ps) (hN : startE fn.N.length ds = ρ) (h : W (evSs (orc T k) fn.body ρ S) fun fl S1 => W (retK fl S1) fun d S' => W (gc S d S') Q) : W (orc T (k + 1) f ds S) Q := by
  have e : orc T (k + 1) f ds S = callF (orc T k) fn ds S := by
    show (match T[f]? with
      | some fn => callF (orc T k) fn ds S
      | none => Res.bad) = _
    rw [hf]
  rw [e]
  exact def_w hl hN h
theorem g_self {d : D} {Q : D → Sto → Prop} (h : Q d S) : W (gc S d S) Q := by
  rw [gc_self, W_ok]
  exact h
end PQ

namespace PQ
open PySem PySem.Spec PyProof.Rows L2
local macro_rules
  | `(tactic| mul_fits) => `(tactic| (repeat (first
    | (with_reducible refine PQ.w_scons ?_)
    | ((with_reducible apply PQ.w_var); (focus (exact rfl)))
    | (with_reducible refine PQ.w_bin ?_)
    | (with_reducible refine PQ.w_call ?_)
    | (with_reducible refine PQ.w_cons ?_)
    | (with_reducible refine PQ.w_nil ?_)
    | (with_reducible refine PQ.w_lit ?_)
    | (with_reducible refine PQ.w_cmp ?_)
    | (with_reducible refine PQ.w_idx ?_)
    | (with_reducible refine PQ.w_set ?_)
    | (with_reducible refine PQ.w_ret ?_)
    | (with_reducible refine PQ.w_ite ?_)
    | (with_reducible refine PQ.w_tv ?_)
    | (with_reducible refine PQ.w_tnot ?_)
    | (with_reducible refine PQ.w_nx ?_)
    | (with_reducible refine PQ.w_rt ?_)
    | (with_reducible refine PQ.w_if_t ?_)
    | (with_reducible refine PQ.w_if_f ?_)
    | (with_reducible refine PQ.w_if_nt ?_)
    | (with_reducible refine PQ.w_if_nf ?_)
    | (with_reducible refine PQ.w_tru_b ?_)
    | (with_reducible refine PQ.w_tru_i ?_)
    | (with_reducible refine PQ.w_tru_t ?_)
    | (with_reducible refine PQ.w_ok ?_)
    | (with_reducible refine PQ.w_snil ?_)
    | (with_reducible refine PQ.w_ex ?_)
    | (with_reducible refine PQ.w_agg ?_)
    | (with_reducible refine PQ.w_fn1 ?_)
    | (with_reducible refine PQ.w_fn2 ?_)
    | (with_reducible refine PQ.w_tup ?_)
    | (with_reducible refine PQ.w_alloc ?_)
    | (with_reducible refine PQ.w_disp ?_)
    | (with_reducible refine PQ.w_e ?_)
    | (with_reducible refine PQ.w_q ?_)
    | (with_reducible refine PQ.w_ir ?_)
    | (with_reducible refine PQ.w_for ?_)
    | (with_reducible refine PQ.w_comp ?_)
    | (with_reducible refine PQ.w_compIf ?_)
    | (with_reducible refine PQ.w_and ?_)
    | (with_reducible refine PQ.w_or ?_)
    | (with_reducible refine PQ.w_not ?_)
    | (with_reducible refine PQ.w_ife ?_)
    | (with_reducible refine PQ.w_slc ?_)
    | (with_reducible refine PQ.w_oN ?_)
    | (with_reducible refine PQ.w_isi ?_)
    | (with_reducible refine PQ.w_app ?_)
    | (with_reducible refine PQ.w_ext ?_)
    | (with_reducible refine PQ.w_pop ?_)
    | (with_reducible refine PQ.w_popAt ?_)
    | (with_reducible refine PQ.w_isN ?_)
    | (with_reducible refine PQ.w_notN ?_)
    | (with_reducible refine PQ.w_inr ?_)
    | (with_reducible refine PQ.w_notInr ?_)
    | (with_reducible refine PQ.w_chn ?_)
    | (with_reducible refine PQ.w_tand ?_)
    | (with_reducible refine PQ.w_tor ?_)
    | (with_reducible refine PQ.w_cat ?_)
    | (with_reducible refine PQ.w_sorted ?_)
    | (with_reducible refine PQ.w_list ?_)
    | (with_reducible refine PQ.w_rev ?_)
    | (with_reducible refine PQ.w_setT ?_)
    | (with_reducible refine PQ.w_par ?_)
    | (with_reducible refine PQ.w_sub ?_)
    | (with_reducible refine PQ.w_bk ?_)
    | (with_reducible refine PQ.w_ct ?_)
    | (with_reducible refine PQ.w_brk ?_)
    | (with_reducible refine PQ.w_cont ?_)
    | (with_reducible refine PQ.w_pass ?_)
    | (with_reducible refine PQ.v_add ?_)
    | (with_reducible refine PQ.v_sub ?_)
    | (with_reducible refine PQ.v_band ?_)
    | (with_reducible refine PQ.v_bor ?_)
    | (with_reducible refine PQ.v_bxor ?_)
    | (with_reducible refine PQ.v_augAdd ?_)
    | (with_reducible refine PQ.v_augSub ?_)
    | (with_reducible refine PQ.v_lt ?_)
    | (with_reducible refine PQ.v_le ?_)
    | (with_reducible refine PQ.v_gt ?_)
    | (with_reducible refine PQ.v_ge ?_)
    | (with_reducible refine PQ.v_eq ?_)
    | (with_reducible refine PQ.v_ne ?_)
    | (with_reducible refine PQ.v_eqS ?_)
    | (with_reducible refine PQ.v_neS ?_)
    | (with_reducible refine PQ.v_eqB ?_)
    | (with_reducible refine PQ.v_intI ?_)
    | (with_reducible refine PQ.v_intB ?_)
    | (with_reducible refine PQ.v_abs ?_)
    | (with_reducible refine PQ.v_gcd ?_)
    | (with_reducible refine PQ.v_min2 ?_)
    | (with_reducible refine PQ.v_max2 ?_)
    | (with_reducible refine PQ.v_slcT ?_)
    | (with_reducible refine PQ.w_bind ?_)
    | (with_reducible refine PQ.r_nx ?_)
    | (with_reducible refine PQ.r_rt ?_)
    | (with_reducible refine PQ.g_self ?_)
    | ((with_reducible apply PQ.w_aug); (focus (exact rfl)))
    | (with_reducible refine PQ.w_neg ?_)
    | (with_reducible refine PQ.w_oS ?_)
    | (with_reducible refine PQ.w_listRg ?_)
    | (with_reducible refine PQ.w_rg ?_)
    | (with_reducible refine PQ.w_augS ?_)
    | ((with_reducible apply PQ.v_mul); (focus (first | assumption | exact .of_left (by decide +kernel) | exact .of_right (by decide +kernel))))
    | ((with_reducible apply PQ.v_fdiv); (focus (first | assumption | exact ⟨by omega, PyProof.noPylong_small (by omega)⟩)))
    | ((with_reducible apply PQ.v_mod); (focus (first | assumption | omega)))
    | ((with_reducible apply PQ.v_pow); (focus (first | assumption | (unfold CPow; decide +kernel) | (unfold CPow; omega))))
    | ((with_reducible apply PQ.v_shl); (focus (first | assumption | (unfold CPow; decide +kernel) | (unfold CPow; omega))))
    | ((with_reducible apply PQ.v_shr); (focus (first | assumption | omega)))
    | ((with_reducible apply PQ.v_idx); (focus (first | exact rfl | assumption)); (focus (first | exact rfl | assumption)))
    | ((with_reducible apply PQ.v_idxT); (focus (first | exact rfl | assumption)))
    | ((with_reducible apply PQ.v_idxF); (focus (first | exact rfl | assumption)))
    | ((with_reducible apply PQ.v_len); (focus (first | exact rfl | assumption)))
    | ((with_reducible apply PQ.v_tuple); (focus (first | exact rfl | assumption)))
    | ((with_reducible apply PQ.v_sum); (focus (first | exact rfl | assumption)); (focus (first | exact rfl | assumption)))
    | ((with_reducible apply PQ.v_all); (focus (first | exact rfl | assumption)); (focus (first | exact rfl | assumption)))
    | ((with_reducible apply PQ.v_any); (focus (first | exact rfl | assumption)); (focus (first | exact rfl | assumption)))
    | ((with_reducible apply PQ.v_slc); (focus (first | exact rfl | assumption)))
    | ((with_reducible apply PQ.v_set); (focus (first | exact rfl | assumption)); (focus (first | exact rfl | assumption)))
    | ((with_reducible apply PQ.w_withL); (focus (first | exact rfl | assumption)))
    | ((with_reducible apply PQ.v_app); (focus (first | exact rfl | assumption)); (focus (first | assumption | exact Nat.lt_of_lt_of_le (Nat.lt_succ_self _) (Nat.le_of_ble_eq_true rfl) | omega)))
    | ((with_reducible apply PQ.v_addT); (focus (first | assumption | exact Nat.le_of_ble_eq_true rfl | omega)))
    | ((with_reducible apply PQ.v_addS); (focus (first | assumption | exact Nat.le_of_ble_eq_true rfl | omega)))
    | ((with_reducible apply PQ.v_addL); (focus (first | exact rfl | assumption)); (focus (first | exact rfl | assumption)); (focus (first | assumption | exact Nat.le_of_ble_eq_true rfl | omega)))
    | ((with_reducible apply PQ.w_tru_r); (focus (first | exact rfl | assumption)))
    | ((with_reducible apply PQ.w_if_T); (focus (exact rfl)))
    | ((with_reducible apply PQ.w_if_F); (focus (exact rfl)))
    | ((with_reducible apply PQ.w_may); (focus (exact rfl)))
    | ((with_reducible refine ⟨_, rfl, ?_⟩))
    | ((with_reducible apply PQ.w_augK); (focus (first | exact rfl | assumption)); (focus (first | exact rfl | assumption)))
    | ((with_reducible refine ⟨_, _, rfl, rfl, ?_, ?_⟩); (focus (first | assumption | (unfold bd62; omega) | (unfold RgOk; omega))))
    | ((with_reducible refine ⟨?_, ?_⟩); (focus (first | assumption | exact Nat.le_of_ble_eq_true rfl | omega))))))
/-! ### the draws: every law has them -/
/-- .. from the place where the number is read -/
def bDraw2 : CSs := (.cons (.augS (.var 0) (.lit (.int 1)) .add (.lit (.int 1)))
  (.cons (.ite (.v (.cmp .ge (.var 3) (.bin .mul (.lit (.int 2)) (.bin .pow (.lit (.int 10)) (.lit (.int 18))))))
  (.cons (.set (.nm 2) (.bin .mod (.fn1 .int (.bin .fdiv (.var 3) (.lit (.int 2)))) (.bin .shl (.lit (.int 1)) (.lit (.int 6000)))))
  (.cons (.sub (.var 0) (.lit (.int 2)) (.bin .fdiv (.var 2) (.var 1)))
  (.cons (.ret (.bin .mod (.fn1 .int (.var 2)) (.var 1)))
  .nil)))
  .nil)
  (.cons (.sub (.var 0) (.lit (.int 3)) (.bin .mod (.fn1 .int (.bin .add (.bin .add (.bin .add (.bin .mul (.idx (.var 0) (.lit (.int 3))) (.lit (.int 48271))) (.bin .mul (.bin .mod (.fn1 .int (.var 3)) (.lit (.int 2147483629))) (.lit (.int 16807)))) (.bin .mul (.idx (.var 0) (.lit (.int 1))) (.lit (.int 69621)))) (.lit (.int 11)))) (.lit (.int 2147483647))))
  (.cons (.ret (.bin .mod (.fn1 .int (.bin .fdiv (.idx (.var 0) (.lit (.int 3))) (.lit (.int 16)))) (.var 1)))
  .nil))))
def bDraw : CSs := (.cons (.ite (.v (.cmp .gt (.idx (.var 0) (.lit (.int 2))) (.lit (.int 0))))
  (.cons (.set (.nm 2) (.idx (.var 0) (.lit (.int 2))))
  (.cons (.sub (.var 0) (.lit (.int 2)) (.bin .fdiv (.var 2) (.var 1)))
  (.cons (.ret (.bin .mod (.fn1 .int (.var 2)) (.var 1)))
  .nil)))
  .nil)
  (.cons (.set (.nm 3) (.lit (.int 0)))
  (.cons (.ite (.v (.cmp .lt (.idx (.var 0) (.lit (.int 1))) (.agg .len (.e (.idx (.var 0) (.lit (.int 0)))))))
  (.cons (.set (.nm 4) (.idx (.idx (.var 0) (.lit (.int 0))) (.idx (.var 0) (.lit (.int 1)))))
  (.cons (.set (.nm 3) (.bin .add (.bin .mul (.lit (.int 2)) (.fn1 .abs (.var 4))) (.fn1 .int (.cmp .lt (.var 4) (.lit (.int 0))))))
  .nil))
  .nil)
  bDraw2)))
/-- the store of a law: the script's ints, the place and the two seeds of the draws; then the law's own -/
structure DS where
  cells : List Int
  p : Int
  r : Int
  s : Int
  p0 : 0 ≤ p
def DS.st (d : DS) (R : Sto) : Sto := .lst (d.cells.map .int) :: .lst [.ref 0, .int d.p, .int d.r, .int d.s] :: R
theorem draw_w {C : Orc} {x : Str} {N : List Str} {d : DS} {R : Sto} {m : Int} {Q : D → Sto → Prop} (hN : N.length = 5) (h1 : 0 < m) (h2 : m < 1073741824) (h : ∀ (y : Int) (d' : DS), 0 ≤ y → y < m → Q (.int y) (d'.st R)) :
    W (callF C ⟨x, N, 2, bDraw⟩ [.ref 1, .int m] (d.st R)) Q := by
  have fd : ∀ i, FDivOk i m := fun i => ⟨by omega, PyProof.noPylong_small (by omega)⟩
  have fd2 : ∀ i, FDivOk i 2 := fun i => ⟨by omega, PyProof.noPylong_small (by omega)⟩
  have fd16 : ∀ i, FDivOk i 16 := fun i => ⟨by omega, PyProof.noPylong_small (by omega)⟩
  have q1 : ∀ i : Int, 0 ≤ i.fmod m := fun i => Int.fmod_nonneg_of_pos i h1
  have q2 : ∀ i : Int, i.fmod m < m := fun i => Int.fmod_lt_of_pos i h1
  have m1 : ∀ i, IntMulOk 2 i := fun i => .of_left (by decide +kernel)
  have m2 : ∀ i, IntMulOk i 48271 := fun i => .of_right (by decide +kernel)
  have m3 : ∀ i, IntMulOk i 16807 := fun i => .of_right (by decide +kernel)
  have m4 : ∀ i, IntMulOk i 69621 := fun i => .of_right (by decide +kernel)
  have c1 : CPow 10 18 := by unfold CPow; decide +kernel
  have c2 : CPow 1 6000 := by unfold CPow; decide +kernel
  have hm : m ≠ 0 := by omega
  have hs : (1 * 2 ^ Int.toNat 6000 : Int) ≠ 0 := by
    rw [Int.one_mul]
    exact Int.ne_of_gt (Int.pow_pos (by decide))
  obtain ⟨cells, p, r, s, p0⟩ := d
  refine def_w (ρ := [some (.ref 1), some (.int m), none, none, none]) rfl (by rw [hN]; rfl) ?_
  simp only [bDraw, DS.st]
  mul_fits
  refine w_ifd (fun k => ?_) fun k => ?_
  · mul_fits
    rw [gc_same (by simp)]
    mul_fits
    exact h _ ⟨cells, p, _, s, p0⟩ (q1 _) (q2 _)
  have tail : ∀ (z : Int) (o : Option D), W (evSs C bDraw2 [some (.ref 1), some (.int m), none, some (.int z), o] (.lst (cells.map .int) :: .lst [.ref 0, .int p, .int r, .int s] :: R)) fun fl S' => W (retK fl S') fun d S'' => W (gc (.lst (cells.map .int) :: .lst [.ref 0, .int p, .int r, .int s] :: R) d S'') Q := by
    intro z o
    simp only [bDraw2]
    mul_fits
    refine w_ifd (fun k => ?_) fun k => ?_
    · mul_fits
      rw [gc_same (by simp)]
      mul_fits
      exact h _ ⟨cells, p + 1, _, s, by omega⟩ (q1 _) (q2 _)
    · mul_fits
      rw [gc_same (by simp)]
      mul_fits
      exact h _ ⟨cells, p + 1, r, _, by omega⟩ (q1 _) (q2 _)
  mul_fits
  refine w_ifd (fun k => ?_) fun k => ?_
  · have hl : p.toNat < cells.length := by rw [List.length_map] at k; omega
    have hc : atI (List.map D.int cells) p = some (.int (cells[p.toNat])) := by
      unfold atI ixN
      rw [if_pos p0, if_pos k]
      simp [hl]
    mul_fits
    exact tail _ _
  · mul_fits
    exact tail _ _
theorem gc_out {S S' : Sto} {d : D} (h : ¬below S.length d) : gc S d S' = .ok d S' := by
  unfold gc
  rw [if_neg fun z => h z.1]
def bBegin : CSs := (.cons (.ret (.alloc (.disp (.cons (.alloc (.comp [1] (.nm 1) (.r (.e (.var 0))) (.fn1 .int (.var 1)))) (.cons (.lit (.int 0)) (.cons (.lit (.int 0)) (.cons (.lit (.int 5)) .nil)))))))
  .nil)
theorem begin_w {C : Orc} {x : Str} {N : List Str} {ns : List Int} {Q : D → Sto → Prop} (hN : N.length = 2) (hl : ns.length ≤ 63) (h : Q (.ref 1) (DS.st ⟨ns, 0, 0, 5, by decide⟩ [])) : W (callF C ⟨x, N, 1, bBegin⟩ [.fix (ns.map .int)] []) Q := by
  refine def_w (ρ := [some (.fix (ns.map .int)), none]) rfl (by rw [hN]; rfl) ?_
  simp only [bBegin]
  mul_fits
  refine ⟨by rw [List.length_map]; exact Nat.le_trans hl (Nat.le_of_ble_eq_true rfl), ?_⟩
  refine loopQ_w (fun ds r S => S = [] ∧ r ++ ds = ns.map .int) (fun d ds r S i => ⟨trivial, ?_⟩) (fun r S i => ⟨trivial, ?_⟩) _ _ ⟨rfl, rfl⟩
  · obtain ⟨rfl, i⟩ := i
    have : d ∈ ns.map D.int := by rw [← i]; simp
    obtain ⟨j, _, rfl⟩ := List.mem_map.mp this
    mul_fits
    exact ⟨rfl, by rw [← i]; simp⟩
  · obtain ⟨rfl, i⟩ := i
    rw [List.append_nil] at i
    subst i
    mul_fits
    rw [gc_out (by simp [below])]
    mul_fits
    exact h
end PQ

/-! The head's facts, with the module's values. -/
namespace PQ
open PySem PySem.Spec PyProof.Rows L2
mutual
def dB (K : PySem.W.Frag) : D → Value → Bool
  | .non, .none => true
  | .bl b, .bool c => b == c
  | .int i, .int j _ => decide (i = j)
  | .str x, .str y _ => decide (x = y)
  | .tup ds, .ref a => (match K.lookup a with
    | some ⟨.type c, none, .seq its _, _⟩ => decide (c = "tuple") && (decide (its.size ≤ sizeLine) && (decide (ds.length ≤ sizeLine) && dsB K ds its.toList))
    | _ => false)
  | _, _ => false
def dsB (K : PySem.W.Frag) : List D → List Value → Bool
  | [], [] => true
  | d :: ds, u :: us => dB K d u && dsB K ds us
  | _, _ => false
end
mutual
theorem dB_ok {K : PySem.W.Frag} : ∀ (d : D) (u : Value), dB K d u = true → ∃ v, RelV v u ∧ ∀ μ H, Rp K μ H d v
  | .non, .none, _ => ⟨.non, rfl, fun _ _ => rfl⟩
  | .bl b, .bool c, h => ⟨.bl b, by
    have : b = c := by simpa [dB] using h
    subst this
    rfl, fun _ _ => rfl⟩
  | .int i, .int j t, h => ⟨.int i, ⟨t, by
    have : i = j := by simpa [dB] using h
    rw [this]⟩, fun _ _ => rfl⟩
  | .str x, .str y t, h => ⟨.str x, ⟨t, by
    have : x = y := by simpa [dB] using h
    rw [this]⟩, fun _ _ => rfl⟩
  | .tup ds, .ref a, h => by
    unfold dB at h
    split at h
    · rename_i c its n sl e
      obtain ⟨h1, h⟩ := Bool.and_eq_true_iff.mp h
      obtain ⟨h2, h⟩ := Bool.and_eq_true_iff.mp h
      obtain ⟨h3, h⟩ := Bool.and_eq_true_iff.mp h
      obtain ⟨vs, q1, q2⟩ := dsB_ok ds its.toList h
      exact ⟨.ref a, rfl, fun μ H => ⟨a, vs, rfl, .inr ⟨_, its, n, e, congrArg Value.type (of_decide_eq_true h1), rfl, rfl, of_decide_eq_true h2, q1⟩, q2 μ H, of_decide_eq_true h3⟩⟩
    · cases h
theorem dsB_ok {K : PySem.W.Frag} : ∀ (ds : List D) (us : List Value), dsB K ds us = true → ∃ vs, Vals vs us ∧ ∀ μ H, RpA K μ H ds vs
  | [], [], _ => ⟨[], .nil, fun _ _ => rfl⟩
  | d :: ds, u :: us, h => by
    obtain ⟨h1, h2⟩ := Bool.and_eq_true_iff.mp h
    obtain ⟨v, a1, a2⟩ := dB_ok d u h1
    obtain ⟨vs, b1, b2⟩ := dsB_ok ds us h2
    exact ⟨v :: vs, .cons a1 b1, fun μ H => .cons (a2 μ H) (b2 μ H)⟩
end
def gB (K : PySem.W.Frag) (q : Str × Gv) : Bool := match q.2 with
  | .con d => (match PySem.W.nsIn K mainGlobals q.1 with
    | some (some u) => dB K d u
    | _ => false)
  | .fn id => He.eqO (PySem.W.nsIn K mainGlobals q.1) (some (some (.builtin id)))
theorem gB_ok {K : PySem.W.Frag} {h : Heap} {mg : Str → Option Value} (X : K.In h) (G : h.Ns mainGlobals mg) {Gs : List (Str × Gv)} (c : Gs.all (gB K) = true) : ∀ x g, (x, g) ∈ Gs → GvOk K mg x g := fun x g hx => by
  have c1 := List.all_eq_true.mp c _ hx
  cases g with
  | con d =>
    have c1 : (match PySem.W.nsIn K mainGlobals x with
      | some (some u) => dB K d u
      | _ => false) = true := c1
    split at c1
    · rename_i u e
      obtain ⟨v, h1, h2⟩ := dB_ok d u c1
      exact ⟨v, u, PySem.W.mg_of X G e, h1, h2⟩
    · cases c1
  | fn id => exact PySem.W.mg_of X G (He.eqO_ok c1)
def obP (n : Nat) (fa : List He.Fa) (fn : List He.DefD) (Gs : List (Str × Gv)) (g : Addr → Option Obj) : He.AlD × Bool := (He.obsDG n fa fn g, Gs.all (gB (He.frG g (He.asD g n))))
def hookP (n : Nat) (fa : List He.Fa) (fn : List He.DefD) (Gs : List (Str × Gv)) : PySem.W.Hook where
  α := He.AlD × Bool
  obs := fun s => obP n fa fn Gs s.heap.get?
  val := fun _ => (He.valD fn, true)
  says := fun _ h => ∃ K : PySem.W.Frag, K.In h ∧ He.SaysD fa fn K ∧ Gs.all (gB K) = true
  of := fun _ _ e => ⟨_, He.frG_in, congrArg (fun z : He.AlD × Bool => z.1) e, congrArg (fun z : He.AlD × Bool => z.2) e⟩
  keeps := fun _ _ _ ⟨K, hK, c⟩ k => ⟨K, PySem.W.Frag.In.keeps hK k, c⟩
theorem obP_eq {n : Nat} {fa : List He.Fa} {fn : List He.DefD} {Gs : List (Str × Gv)} {g : Addr → Option Obj} {s : Shared} (h : ∀ a, g a = s.heap.get? a) : obP n fa fn Gs g = (hookP n fa fn Gs).obs s := by
  have e : g = s.heap.get? := funext h
  rw [e] <;> rfl
end PQ

namespace PQ
open PySem PySem.Spec PyProof.Rows L2
theorem le64 {n : Nat} (h : n ≤ 64) : n ≤ sizeLine := Nat.le_trans h (Nat.le_of_ble_eq_true rfl)
end PQ

/-! Helps that more than one law asks for. -/
namespace PQ
open PySem PySem.Spec PyProof.Rows L2
theorem while_w {C : Orc} {t : CT} {b : CSs} {Q : Fl → Sto → Prop} (I : Nat → En → Sto → Prop)
    (h : ∀ n ρ S, I n ρ S → W (evT C t ρ S) fun c S1 => (c = true → ∃ m, n = m + 1 ∧ W (evSs C b ρ S1) fun fl S2 => ∃ ρ', (fl = .nx ρ' ∨ fl = .ct ρ') ∧ I m ρ' S2) ∧ (c = false → Q (.nx ρ) S1)) : ∀ (n fuel : Nat) ρ S, n < fuel → I n ρ S → W (whileS (evT C t) (evSs C b) fuel ρ S) Q
  | n, 0, _, _, hf, _ => by omega
  | n, fuel + 1, ρ, S, hf, hi => by
    rw [whileS, W_bind]
    refine W_mono (h n ρ S hi) fun c S1 hc => ?_
    cases c with
    | false =>
      rw [if_neg (by decide), W_ok]
      exact hc.2 rfl
    | true =>
      obtain ⟨m, rfl, hb⟩ := hc.1 rfl
      rw [if_pos rfl, W_bind]
      refine W_mono hb fun fl S2 ⟨ρ', e, k⟩ => ?_
      rcases e with e | e <;> subst e <;> exact while_w I h m fuel ρ' S2 (by omega) k
theorem get_end (S : Sto) (o : Ob) : (S ++ [o])[S.length]? = some o := by simp
theorem set_end (S : Sto) (o p : Ob) : (S ++ [o]).set S.length p = S ++ [p] := by simp
theorem get_pre {S R : Sto} {a : Nat} {o : Ob} (h : S[a]? = some o) : (S ++ R)[a]? = some o := by
  rw [List.getElem?_append_left (List.getElem?_eq_some_iff.mp h).1]
  exact h
theorem ints_map (ns : List Int) : intsOf (ns.map D.int) = some ns := by
  induction ns with
  | nil => rfl
  | cons x xs ih => simp [intsOf, ih]
theorem at_last (l : List D) (d : D) : atI (l ++ [d]) (-1) = some d := by
  unfold atI ixN
  rw [if_neg (by omega), if_pos (by simp; omega)]
  have e : ((-1 : Int) + ((l ++ [d]).length : Int)).toNat = l.length := by simp; omega
  rw [e]
  simp
theorem sum_nn : ∀ ns : List Int, (∀ n ∈ ns, 0 ≤ n) → 0 ≤ ns.sum
  | [], _ => by simp
  | n :: ns, h => by
    have := h n (by simp)
    have := sum_nn ns fun x hx => h x (by simp [hx])
    rw [List.sum_cons]
    omega
theorem rgD_get {i j : Int} {d : D} (h : d ∈ rgD i j) : ∃ x, d = .int x ∧ i ≤ x ∧ x < j := by
  obtain ⟨q, hq, rfl⟩ := List.mem_map.mp h
  rw [List.mem_range] at hq
  exact ⟨_, rfl, by omega, by omega⟩
def Grown (S S' : Sto) : Prop := ∃ g, S' = S ++ g
theorem bools_map (bs : List Bool) : boolsOf (bs.map D.bl) = some bs := by
  induction bs with
  | nil => rfl
  | cons x xs ih => simp [boolsOf, ih]
theorem le_size {n : Nat} (h : n ≤ 100000) : n ≤ sizeLine := Nat.le_trans h (Nat.le_of_ble_eq_true rfl)
theorem gc_st {d d' : DS} {R g : Sto} {e : D} {Q : D → Sto → Prop} (h1 : below (R.length + 2) e → Q e (d'.st R)) (h2 : Q e (d'.st (R ++ g))) : W (gc (d.st R) e (d'.st (R ++ g))) Q := by
  unfold gc
  split
  · rename_i sf
    rw [W_ok]
    have : (d'.st (R ++ g)).take (d.st R).length = d'.st R := by
      show List.take (R.length + 2) (_ :: _ :: (R ++ g)) = _
      rw [List.take_succ_cons, List.take_succ_cons, List.take_left' rfl]
      rfl
    rw [this]
    exact h1 sf.1
  · rw [W_ok]
    exact h2
theorem st_len {d : DS} {R : Sto} : (d.st R).length = R.length + 2 := rfl
theorem st_app {d : DS} {R g : Sto} : d.st R ++ g = d.st (R ++ g) := rfl
theorem st_get {d : DS} {R : Sto} {b : Nat} : (d.st R)[b + 2]? = R[b]? := rfl
theorem w_es {C : Orc} {es : CEs} {ρ : En} {S S1 : Sto} {ds : List D} {Q : List D → Sto → Prop} (he : evEs C es ρ S = .ok ds S1) (h : Q ds S1) : W (evEs C es ρ S) Q := by
  rw [he, W_ok]
  exact h
def Good1 (fl : Fl) (S : Sto) : Prop := W (retK fl S) fun d S' => W (gc [] d S') fun e _ => e = .bl true
theorem good1 {S : Sto} : Good1 (.rt (.bl true)) S := by
  refine r_rt ?_
  rw [show S = [] ++ S from rfl, gc_app (by simp [below])]
  exact w_ok rfl
theorem st_end {d : DS} {R : Sto} {o : Ob} : (d.st (R ++ [o]))[R.length + 2]? = some o := by rw [st_get]; exact get_end R o
theorem fdiv_small {c : Int} (h0 : c ≠ 0) (h : c.natAbs < 2 ^ 8000) (n : Int) : FDivOk n c := ⟨h0, PyProof.noPylong_of_log2 (by
  have h1 : c.natAbs ≠ 0 := by omega
  have := (Nat.log2_lt h1).mpr h
  omega)⟩
theorem mul_bd {a b : Int} {m n : Nat} (ha : a.natAbs < 2 ^ m) (hb : b.natAbs < 2 ^ n) : (a * b).natAbs < 2 ^ (m + n) := by
  rw [Int.natAbs_mul, Nat.pow_add]
  exact Nat.mul_lt_mul_of_lt_of_le ha (Nat.le_of_lt hb) (Nat.two_pow_pos _)
theorem bd_mono {a : Int} {m n : Nat} (h : a.natAbs < 2 ^ m) (hmn : m ≤ n) : a.natAbs < 2 ^ n := Nat.lt_of_lt_of_le h (Nat.pow_le_pow_right (by decide) hmn)
theorem add_bd {a b : Int} {m : Nat} (ha : a.natAbs < 2 ^ m) (hb : b.natAbs < 2 ^ m) : (a + b).natAbs < 2 ^ (m + 1) := by
  rw [Nat.pow_succ]
  omega
theorem sub_bd {a b : Int} {m : Nat} (ha : a.natAbs < 2 ^ m) (hb : b.natAbs < 2 ^ m) : (a - b).natAbs < 2 ^ (m + 1) := by
  rw [Nat.pow_succ]
  omega
theorem mul_okb {a b : Int} {m n : Nat} (ha : a.natAbs < 2 ^ m) (hb : b.natAbs < 2 ^ n) (h : m + n ≤ 134217728) : IntMulOk a b := (mulx_ok ha hb h).ok
section
variable {S : Sto} {Q : D → Sto → Prop}
theorem v_idxS {z : Str} {i : Int} {c : Nat} (k : z.length ≤ sizeLine) (k2 : atI z.cps.toList i = some c) (h : Q (.str ⟨#[c]⟩) S) : W (idxD (.str z) (.int i) S) Q := by
  simpa [idxD, k, k2] using h
theorem v_mulL {i : Nat} {n : Int} {a : List D} (k1 : S[i]? = some (.lst a)) (k2 : -(2 ^ 63) ≤ n ∧ n < 2 ^ 63 ∧ a.length * n.toNat ≤ sizeLine) (h : Q (.ref S.length) (S ++ [.lst (List.replicate n.toNat a).flatten])) : W (binD .mul (.ref i) (.int n) S) Q := by
  simp only [binD, k1, W_ask, W_ok]
  exact ⟨k2, h⟩
theorem v_ext {a : Nat} {ds es : List D} {r : RV} (k1 : S[a]? = some (.lst ds)) (k2 : trOf S r = some es) (k3 : ds.length + es.length ≤ sizeLine) (h : Q .non (S.set a (.lst (ds ++ es)))) : W (extD (.ref a) r S) Q := by
  simp only [extD, withL, k1, k2, may_some, if_pos k3, W_ok]
  exact h
theorem v_pop {a : Nat} {ds : List D} {d : D} (k1 : S[a]? = some (.lst ds)) (k2 : ds[ds.length - 1]? = some d) (h : Q d (S.set a (.lst ds.dropLast))) : W (popD (.ref a) S) Q := by
  simp only [popD, withL, k1, k2, may_some, W_ok]
  exact h
theorem v_popAt {a : Nat} {ds : List D} {i : Int} {k : Nat} {d : D} (k1 : S[a]? = some (.lst ds)) (k0 : -(2 ^ 63) ≤ i ∧ i < 2 ^ 63) (k2 : seqIndex? i ds.length = some k) (k3 : ds[k]? = some d) (h : Q d (S.set a (.lst (ds.eraseIdx k)))) : W (popAtD (.ref a) (.int i) S) Q := by
  simp only [popAtD, withL, k1, if_pos k0, k2, k3, may_some, W_ok]
  exact h
end
end PQ

/-! A walk that may go back early. -/
namespace PQ
open PySem PySem.Spec PyProof.Rows L2
theorem loopS_r {C : Sto → Prop} {f : D → En → Sto → Res Fl} {Q : Fl → Sto → Prop} (I : List D → En → Sto → Prop)
    (h : ∀ d ds ρ S, I (d :: ds) ρ S → C S ∧ W (f d ρ S) fun fl S' => match fl with
      | .nx ρ' => I ds ρ' S'
      | .ct ρ' => I ds ρ' S'
      | .bk ρ' => Q (.nx ρ') S'
      | .rt x => Q (.rt x) S')
    (h0 : ∀ ρ S, I [] ρ S → C S ∧ Q (.nx ρ) S) : ∀ ds ρ S, I ds ρ S → W (loopS C f ds ρ S) Q
  | [], ρ, S, i => by
    rw [loopS, W_ask, W_ok]
    exact h0 ρ S i
  | d :: ds, ρ, S, i => by
    rw [loopS, W_ask, W_bind]
    obtain ⟨k1, k2⟩ := h d ds ρ S i
    refine ⟨k1, W_mono k2 fun fl S' k => ?_⟩
    cases fl with
    | nx ρ' => exact loopS_r I h h0 ds ρ' S' k
    | ct ρ' => exact loopS_r I h h0 ds ρ' S' k
    | bk ρ' => exact (W_ok (Q := Q)).symm ▸ k
    | rt x => exact (W_ok (Q := Q)).symm ▸ k
end PQ

/-! Numbers and tuples alone; more helps. -/
namespace PQ
open PySem PySem.Spec PyProof.Rows L2
theorem v_lenS {S : Sto} {z : Str} {Q : D → Sto → Prop} (k : z.length ≤ sizeLine) (h : Q (.int z.length) S) : W (aggD .len (.val (.str z)) S) Q := by
  have e : aggD .len (.val (.str z)) S = .ok (.int z.length) S := by
    show (if z.length ≤ sizeLine then _ else _) = _
    rw [if_pos k]
  rw [e, W_ok]
  exact h
theorem rgD0 (n : Nat) : rgD 0 (n : Int) = (List.range n).map fun (k : Nat) => D.int (k : Int) := by simp [rgD]
abbrev natD (n : Nat) : D := .int (n : Int)
theorem at_map {α : Type} (f : α → D) (l : List α) (k : Nat) (h : k < l.length) : atI (l.map f) (k : Int) = some (f l[k]) := by
  unfold atI ixN
  rw [if_pos (by omega), if_pos (by simp; omega)]
  simp [h]
def gI (l : List Int) (k : Nat) : Int := l.getD k 0
theorem at_ints (l : List Int) (k : Nat) (h : k < l.length) : atI (l.map D.int) (k : Int) = some (.int (gI l k)) := by
  rw [at_map _ _ _ h]
  simp [gI, h]
theorem ix_nat {n k : Nat} (h : k < n) : ixN n (k : Int) = some k := by
  unfold ixN
  rw [if_pos (by omega), if_pos (by omega)]
  simp
theorem at_nat (l : List D) (k : Nat) (h : k < l.length) : atI l (k : Int) = some l[k] := by
  unfold atI
  rw [ix_nat h]
  simp [h]
theorem get_mid (S R : Sto) (o : Ob) : (S ++ [o] ++ R)[S.length]? = some o := by simp
theorem set_mid (S R : Sto) (o p : Ob) : (S ++ [o] ++ R).set S.length p = S ++ [p] ++ R := by
  rw [List.set_append_left _ _ (by simp), set_end]
theorem get_far {S R : Sto} {o p : Ob} {b : Nat} {q : Ob} (h : S.length < b) (e : (S ++ [o] ++ R)[b]? = some q) : (S ++ [p] ++ R)[b]? = some q := by
  rw [List.getElem?_append_right (by simp; omega)] at e ⊢
  simpa using e
/-- numbers and tuples of such -/
inductive It : D → Prop
  | int (i : Int) : It (.int i)
  | tup (ds : List D) (h : ∀ d ∈ ds, It d) : It (.tup ds)
theorem belows_iff {n : Nat} : ∀ {ds : List D}, belows n ds ↔ ∀ d ∈ ds, below n d
  | [] => by simp [belows]
  | d :: ds => by simp [belows, belows_iff (ds := ds)]
theorem it_below {n : Nat} {d : D} (h : It d) : below n d := by
  induction h with
  | int i => simp [PQ.below]
  | tup ds h ih =>
    show belows n ds
    exact belows_iff.mpr ih
theorem it_ints (l : List Int) : It (.tup (l.map D.int)) := .tup _ fun d hd => by
  obtain ⟨i, _, rfl⟩ := List.mem_map.mp hd
  exact .int i
end PQ

namespace K07
open PySem PySem.Spec PyProof.Rows L2 PQ
abbrev P : Program := PySem.Challenge.pw_everygrown_k07_glued_webs
def top (i : Nat) : Stmt := P.main.body.getD i (.Pass ⟨0, 0, 0, 0⟩)
def names : List Str := ["spots_of", "ties_at", "moved_ties", "renumber", "glue", "_law_begin", "_law_draw", "_law_pick", "_law_rare", "_law_shuffled", "_law_some", "_law_is_int", "_law_letter", "_law_own_web", "_law_many", "_law_guest", "_law_places", "_law_glued", "_law_renumbered", "_law_images", "_law_is_tie", "_law_is_web", "_law_glue_holds", "_law_ends_hold", "_law_seen_holds", "_law_renumber_holds", "_law_orders_hold", "_law_turned_holds", "_law_large_holds", "law"]
def B : List Str := ["len", "range", "tuple", "int", "sorted", "isinstance", "list", "min", "max", "all", "str", "abs", "bool"]
def Gs : List (Str × Gv) := []

/-! ### the defs, in the small language -/
def b_spots_of : CSs := (.cons (.ret (.bin .add (.idx (.var 0) (.lit (.int 0))) (.agg .len (.e (.idx (.var 0) (.lit (.int 1))))))) .nil)
def b_ties_at_1 : CSs := (.cons (.ite (.v (.cmp .eq (.var 3) (.var 1))) (.cons (.ex (.app (.var 2) (.tup (.cons (.var 4) (.cons (.var 5) .nil))))) .nil) (.cons (.ite (.v (.cmp .eq (.var 4) (.var 1))) (.cons (.ex (.app (.var 2) (.tup (.cons (.var 3) (.cons (.var 5) .nil))))) .nil) .nil) .nil)) .nil)
def b_ties_at_2 : CSs := (.cons (.ret (.agg .tuple (.e (.var 2)))) .nil)
def b_ties_at : CSs := (.cons (.set (.nm 2) (.alloc (.disp .nil))) (.cons (.for (.tup [ 3 , 4 , 5 ]) (.r (.e (.idx (.var 0) (.lit (.int 2))))) b_ties_at_1) b_ties_at_2))
def b_moved_ties_2 : CSs := (.cons (.ex (.app (.var 2) (.tup (.cons (.var 6) (.cons (.var 7) (.cons (.var 5) .nil)))))) .nil)
def b_moved_ties_1 : CSs := (.cons (.par 6 7 (.idx (.var 1) (.var 3)) (.idx (.var 1) (.var 4))) (.cons (.ite (.v (.cmp .gt (.var 6) (.var 7))) (.cons (.par 6 7 (.var 7) (.var 6)) .nil) .nil) b_moved_ties_2))
def b_moved_ties_3 : CSs := (.cons (.ret (.var 2)) .nil)
def b_moved_ties : CSs := (.cons (.set (.nm 2) (.alloc (.disp .nil))) (.cons (.for (.tup [ 3 , 4 , 5 ]) (.r (.e (.var 0))) b_moved_ties_1) b_moved_ties_3))
def b_renumber_1 : CSs := (.cons (.sub (.var 2) (.bin .sub (.idx (.var 1) (.bin .add (.idx (.var 0) (.lit (.int 0))) (.var 3))) (.idx (.var 0) (.lit (.int 0)))) (.idx (.idx (.var 0) (.lit (.int 1))) (.var 3))) .nil)
def b_renumber_2 : CSs := (.cons (.ret (.tup (.cons (.idx (.var 0) (.lit (.int 0))) (.cons (.join "" (.e (.var 2))) (.cons (.agg .tuple (.q (.sorted (.e (.call 2 (.cons (.idx (.var 0) (.lit (.int 2))) (.cons (.var 1) .nil))))))) .nil))))) .nil)
def b_renumber : CSs := (.cons (.set (.nm 2) (.alloc (.comp [ 4 ] (.nm 4) (.r (.e (.idx (.var 0) (.lit (.int 1))))) (.lit (.str "a"))))) (.cons (.for (.nm 3) (.rg (.lit (.int 0)) (.agg .len (.e (.idx (.var 0) (.lit (.int 1)))))) b_renumber_1) b_renumber_2))
def b_glue : CSs := (.cons (.set (.nm 3) (.call 0 (.cons (.var 0) .nil))) (.cons (.set (.nm 4) (.alloc (.cat (.q (.list (.e (.var 1)))) (.q (.comp [ 6 ] (.nm 6) (.rg (.lit (.int 0)) (.agg .len (.e (.idx (.var 2) (.lit (.int 1)))))) (.bin .add (.var 3) (.var 6))))))) (.cons (.set (.nm 5) (.alloc (.cat (.q (.list (.e (.idx (.var 0) (.lit (.int 2)))))) (.e (.call 2 (.cons (.idx (.var 2) (.lit (.int 2))) (.cons (.var 4) .nil))))))) (.cons (.ret (.tup (.cons (.idx (.var 0) (.lit (.int 0))) (.cons (.bin .add (.idx (.var 0) (.lit (.int 1))) (.idx (.var 2) (.lit (.int 1)))) (.cons (.agg .tuple (.q (.sorted (.e (.var 5))))) .nil))))) .nil))))
def b__law_begin : CSs := (.cons (.ret (.alloc (.disp (.cons (.alloc (.comp [ 1 ] (.nm 1) (.r (.e (.var 0))) (.fn1 .int (.var 1)))) (.cons (.lit (.int 0)) (.cons (.lit (.int 0)) (.cons (.lit (.int 5)) .nil))))))) .nil)
def b__law_draw_3 : CSs := (.cons (.sub (.var 0) (.lit (.int 3)) (.bin .mod (.fn1 .int (.bin .add (.bin .add (.bin .add (.bin .mul (.idx (.var 0) (.lit (.int 3))) (.lit (.int 48271))) (.bin .mul (.bin .mod (.fn1 .int (.var 3)) (.lit (.int 2147483629))) (.lit (.int 16807)))) (.bin .mul (.idx (.var 0) (.lit (.int 1))) (.lit (.int 69621)))) (.lit (.int 11)))) (.lit (.int 2147483647)))) (.cons (.ret (.bin .mod (.fn1 .int (.bin .fdiv (.idx (.var 0) (.lit (.int 3))) (.lit (.int 16)))) (.var 1))) .nil))
def b__law_draw_2 : CSs := (.cons (.augS (.var 0) (.lit (.int 1)) .add (.lit (.int 1))) (.cons (.ite (.v (.cmp .ge (.var 3) (.bin .mul (.lit (.int 2)) (.bin .pow (.lit (.int 10)) (.lit (.int 18)))))) (.cons (.set (.nm 2) (.bin .mod (.fn1 .int (.bin .fdiv (.var 3) (.lit (.int 2)))) (.bin .shl (.lit (.int 1)) (.lit (.int 6000))))) (.cons (.sub (.var 0) (.lit (.int 2)) (.bin .fdiv (.var 2) (.var 1))) (.cons (.ret (.bin .mod (.fn1 .int (.var 2)) (.var 1))) .nil))) .nil) b__law_draw_3))
def b__law_draw_1 : CSs := (.cons (.set (.nm 3) (.lit (.int 0))) (.cons (.ite (.v (.cmp .lt (.idx (.var 0) (.lit (.int 1))) (.agg .len (.e (.idx (.var 0) (.lit (.int 0))))))) (.cons (.set (.nm 4) (.idx (.idx (.var 0) (.lit (.int 0))) (.idx (.var 0) (.lit (.int 1))))) (.cons (.set (.nm 3) (.bin .add (.bin .mul (.lit (.int 2)) (.fn1 .abs (.var 4))) (.fn1 .int (.cmp .lt (.var 4) (.lit (.int 0)))))) .nil)) .nil) b__law_draw_2))
def b__law_draw : CSs := (.cons (.ite (.v (.cmp .gt (.idx (.var 0) (.lit (.int 2))) (.lit (.int 0)))) (.cons (.set (.nm 2) (.idx (.var 0) (.lit (.int 2)))) (.cons (.sub (.var 0) (.lit (.int 2)) (.bin .fdiv (.var 2) (.var 1))) (.cons (.ret (.bin .mod (.fn1 .int (.var 2)) (.var 1))) .nil))) .nil) b__law_draw_1)
def b__law_pick : CSs := (.cons (.ret (.idx (.var 1) (.call 6 (.cons (.var 0) (.cons (.agg .len (.e (.var 1))) .nil))))) .nil)
def b__law_rare : CSs := (.cons (.ret (.cmp .eq (.call 6 (.cons (.var 0) (.cons (.var 1) .nil))) (.bin .fdiv (.var 1) (.lit (.int 2))))) .nil)
def b__law_shuffled_1 : CSs := (.cons (.ex (.app (.var 3) (.popAt (.var 2) (.call 6 (.cons (.var 0) (.cons (.agg .len (.e (.var 2))) .nil)))))) .nil)
def b__law_shuffled_2 : CSs := (.cons (.ret (.var 3)) .nil)
def b__law_shuffled : CSs := (.cons (.set (.nm 2) (.alloc (.list (.e (.var 1))))) (.cons (.set (.nm 3) (.alloc (.disp .nil))) (.cons (.for (.nm 4) (.rg (.lit (.int 0)) (.agg .len (.e (.var 2)))) b__law_shuffled_1) b__law_shuffled_2)))
def b__law_some : CSs := (.cons (.ret (.slc (.call 9 (.cons (.var 0) (.cons (.var 1) .nil))) .none (.some (.var 2)))) .nil)
def b__law_is_int : CSs := (.cons (.ret (.and (.isi (.var 0) .int) (.not (.isi (.var 0) .bool)))) .nil)
def b__law_letter : CSs := (.cons (.ret (.idx (.lit (.str "abcdefghijklmnopqrstuvwxyz")) (.call 6 (.cons (.var 0) (.cons (.lit (.int 26)) .nil))))) .nil)
def b__law_own_web_1 : CSs := (.cons (.set (.nm 8) (.call 6 (.cons (.var 0) (.cons (.bin .sub (.var 5) (.lit (.int 1))) .nil)))) (.cons (.ex (.app (.var 6) (.tup (.cons (.var 8) (.cons (.bin .add (.bin .add (.var 8) (.lit (.int 1))) (.call 6 (.cons (.var 0) (.cons (.bin .sub (.bin .sub (.var 5) (.lit (.int 1))) (.var 8)) .nil)))) (.cons (.call 7 (.cons (.var 0) (.cons (.var 4) .nil))) .nil)))))) .nil))
def b__law_own_web_2 : CSs := (.cons (.ret (.tup (.cons (.var 1) (.cons (.join "" (.q (.comp [ 7 ] (.nm 7) (.rg (.lit (.int 0)) (.var 2)) (.call 12 (.cons (.var 0) .nil))))) (.cons (.agg .tuple (.q (.sorted (.e (.var 6))))) .nil))))) .nil)
def b__law_own_web : CSs := (.cons (.set (.nm 5) (.bin .add (.var 1) (.var 2))) (.cons (.set (.nm 6) (.alloc (.disp .nil))) (.cons (.ite (.v (.cmp .ge (.var 5) (.lit (.int 2)))) (.cons (.for (.nm 7) (.rg (.lit (.int 0)) (.var 3)) b__law_own_web_1) .nil) .nil) b__law_own_web_2)))
def b__law_many : CSs := (.cons (.ret (.bin .add (.idx (.var 0) (.lit (.int 0))) (.agg .len (.e (.idx (.var 0) (.lit (.int 1))))))) .nil)
def b__law_guest : CSs := (.cons (.ret (.call 13 (.cons (.var 0) (.cons (.call 6 (.cons (.var 0) (.cons (.bin .add (.fn2 .min (.lit (.int 3)) (.call 14 (.cons (.var 1) .nil))) (.lit (.int 1))) .nil))) (.cons (.call 6 (.cons (.var 0) (.cons (.lit (.int 6)) .nil))) (.cons (.call 6 (.cons (.var 0) (.cons (.lit (.int 9)) .nil))) (.cons (.var 2) .nil))))))) .nil)
def b__law_places : CSs := (.cons (.ret (.agg .tuple (.e (.call 10 (.cons (.var 0) (.cons (.alloc (.listRg (.lit (.int 0)) (.call 14 (.cons (.var 1) .nil)))) (.cons (.idx (.var 2) (.lit (.int 0))) .nil))))))) .nil)
def b__law_glued_1 : CSs := (.cons (.set (.nm 8) (.ife (.v (.cmp .lt (.var 5) (.idx (.var 2) (.lit (.int 0))))) (.idx (.var 1) (.var 5)) (.bin .add (.var 3) (.var 5)))) (.cons (.set (.nm 9) (.ife (.v (.cmp .lt (.var 6) (.idx (.var 2) (.lit (.int 0))))) (.idx (.var 1) (.var 6)) (.bin .add (.var 3) (.var 6)))) (.cons (.ex (.app (.var 4) (.tup (.cons (.fn2 .min (.var 8) (.var 9)) (.cons (.fn2 .max (.var 8) (.var 9)) (.cons (.var 7) .nil)))))) .nil)))
def b__law_glued_2 : CSs := (.cons (.ret (.tup (.cons (.idx (.var 0) (.lit (.int 0))) (.cons (.bin .add (.idx (.var 0) (.lit (.int 1))) (.idx (.var 2) (.lit (.int 1)))) (.cons (.agg .tuple (.q (.sorted (.e (.var 4))))) .nil))))) .nil)
def b__law_glued : CSs := (.cons (.set (.nm 3) (.bin .sub (.call 14 (.cons (.var 0) .nil)) (.idx (.var 2) (.lit (.int 0))))) (.cons (.set (.nm 4) (.alloc (.list (.e (.idx (.var 0) (.lit (.int 2))))))) (.cons (.for (.tup [ 5 , 6 , 7 ]) (.r (.e (.idx (.var 2) (.lit (.int 2))))) b__law_glued_1) b__law_glued_2)))
def b__law_renumbered_1 : CSs := (.cons (.ex (.app (.var 3) (.tup (.cons (.fn2 .min (.idx (.var 1) (.var 4)) (.idx (.var 1) (.var 5))) (.cons (.fn2 .max (.idx (.var 1) (.var 4)) (.idx (.var 1) (.var 5))) (.cons (.var 6) .nil)))))) .nil)
def b__law_renumbered_2 : CSs := (.cons (.ret (.tup (.cons (.idx (.var 0) (.lit (.int 0))) (.cons (.join "" (.q (.comp [ 8 , 9 ] (.tup [ 8 , 9 ]) (.r (.e (.var 2))) (.var 9)))) (.cons (.agg .tuple (.q (.sorted (.e (.var 3))))) .nil))))) .nil)
def b__law_renumbered : CSs := (.cons (.set (.nm 2) (.alloc (.sorted (.q (.comp [ 7 ] (.nm 7) (.rg (.lit (.int 0)) (.agg .len (.e (.idx (.var 0) (.lit (.int 1)))))) (.tup (.cons (.idx (.var 1) (.bin .add (.idx (.var 0) (.lit (.int 0))) (.var 7))) (.cons (.idx (.idx (.var 0) (.lit (.int 1))) (.var 7)) .nil)))))))) (.cons (.set (.nm 3) (.alloc (.disp .nil))) (.cons (.for (.tup [ 4 , 5 , 6 ]) (.r (.e (.idx (.var 0) (.lit (.int 2))))) b__law_renumbered_1) b__law_renumbered_2)))
def b__law_images : CSs := (.cons (.ret (.agg .tuple (.q (.cat (.q (.listRg (.lit (.int 0)) (.idx (.var 1) (.lit (.int 0))))) (.e (.call 9 (.cons (.var 0) (.cons (.alloc (.listRg (.idx (.var 1) (.lit (.int 0))) (.call 14 (.cons (.var 1) .nil)))) .nil)))))))) .nil)
def b__law_is_tie_1 : CSs := (.cons (.ret (.and (.call 11 (.cons (.idx (.var 0) (.lit (.int 0))) .nil)) (.and (.call 11 (.cons (.idx (.var 0) (.lit (.int 1))) .nil)) (.isi (.idx (.var 0) (.lit (.int 2))) .str)))) .nil)
def b__law_is_tie : CSs := (.cons (.ite (.or (.not (.v (.isi (.var 0) .tuple))) (.v (.cmp .ne (.agg .len (.e (.var 0))) (.lit (.int 3))))) (.cons (.ret (.lit (.bl false))) .nil) .nil) b__law_is_tie_1)
def b__law_is_web_2 : CSs := (.cons (.ret (.cmp .eq (.var 0) (.var 1))) .nil)
def b__law_is_web_1 : CSs := (.cons (.ite (.or (.not (.v (.isi (.idx (.var 0) (.lit (.int 2))) .tuple))) (.not (.v (.agg .all (.q (.comp [ 2 ] (.nm 2) (.r (.e (.idx (.var 0) (.lit (.int 2))))) (.call 20 (.cons (.var 2) .nil)))))))) (.cons (.ret (.lit (.bl false))) .nil) .nil) b__law_is_web_2)
def b__law_is_web : CSs := (.cons (.ite (.or (.not (.v (.isi (.var 0) .tuple))) (.or (.v (.cmp .ne (.agg .len (.e (.var 0))) (.lit (.int 3)))) (.or (.not (.v (.call 11 (.cons (.idx (.var 0) (.lit (.int 0))) .nil)))) (.not (.v (.isi (.idx (.var 0) (.lit (.int 1))) .str)))))) (.cons (.ret (.lit (.bl false))) .nil) .nil) b__law_is_web_1)
def b__law_glue_holds : CSs := (.cons (.ret (.call 21 (.cons (.call 4 (.cons (.var 0) (.cons (.var 1) (.cons (.var 2) .nil)))) (.cons (.call 17 (.cons (.var 0) (.cons (.var 1) (.cons (.var 2) .nil)))) .nil)))) .nil)
def b__law_ends_hold_1 : CSs := (.cons (.ret (.agg .all (.q (.comp [ 7 ] (.nm 7) (.r (.e (.var 2))) (.and (.call 11 (.cons (.idx (.var 7) (.lit (.int 0))) .nil)) (.isi (.idx (.var 7) (.lit (.int 1))) .str)))))) .nil)
def b__law_ends_hold : CSs := (.cons (.set (.nm 2) (.call 1 (.cons (.var 0) (.cons (.var 1) .nil)))) (.cons (.set (.nm 3) (.alloc (.compIf [ 4 , 5 , 6 ] (.tup [ 4 , 5 , 6 ]) (.r (.e (.idx (.var 0) (.lit (.int 2))))) (.v (.inr (.var 1) (.e (.tup (.cons (.var 4) (.cons (.var 5) .nil)))))) (.tup (.cons (.bin .sub (.bin .add (.var 4) (.var 5)) (.var 1)) (.cons (.var 6) .nil)))))) (.cons (.ite (.or (.not (.v (.isi (.var 2) .tuple))) (.v (.cmp .ne (.alloc (.list (.e (.var 2)))) (.var 3)))) (.cons (.ret (.lit (.bl false))) .nil) .nil) b__law_ends_hold_1)))
def b__law_seen_holds_1 : CSs := (.cons (.ret (.agg .all (.q (.comp [ 3 ] (.nm 3) (.r (.e (.var 1))) (.call 23 (.cons (.var 0) (.cons (.var 3) .nil))))))) .nil)
def b__law_seen_holds : CSs := (.cons (.set (.nm 2) (.call 0 (.cons (.var 0) .nil))) (.cons (.ite (.or (.not (.v (.call 11 (.cons (.var 2) .nil)))) (.v (.cmp .ne (.var 2) (.call 14 (.cons (.var 0) .nil))))) (.cons (.ret (.lit (.bl false))) .nil) .nil) b__law_seen_holds_1))
def b__law_renumber_holds : CSs := (.cons (.set (.nm 2) (.call 18 (.cons (.var 0) (.cons (.var 1) .nil)))) (.cons (.set (.nm 3) (.agg .tuple (.q (.comp [ 4 ] (.nm 4) (.rg (.lit (.int 0)) (.agg .len (.e (.var 1)))) (.tix (.var 1) (.var 4)))))) (.cons (.ret (.and (.call 21 (.cons (.call 3 (.cons (.var 0) (.cons (.var 1) .nil))) (.cons (.var 2) .nil))) (.call 21 (.cons (.call 3 (.cons (.var 2) (.cons (.var 3) .nil))) (.cons (.var 0) .nil))))) .nil)))
def b__law_orders_hold_2 : CSs := (.cons (.set (.nm 11) (.call 15 (.cons (.var 0) (.cons (.var 4) (.cons (.var 2) .nil))))) (.cons (.set (.nm 12) (.call 16 (.cons (.var 0) (.cons (.var 4) (.cons (.var 11) .nil))))) (.cons (.set (.nm 13) (.agg .tuple (.q (.comp [ 15 ] (.nm 15) (.r (.e (.var 12))) (.ife (.v (.cmp .lt (.var 15) (.idx (.var 4) (.lit (.int 0))))) (.idx (.var 6) (.var 15)) (.bin .sub (.bin .add (.var 9) (.var 15)) (.idx (.var 4) (.lit (.int 0))))))))) (.cons (.set (.nm 8) (.call 17 (.cons (.call 17 (.cons (.var 1) (.cons (.var 6) (.cons (.var 4) .nil)))) (.cons (.var 13) (.cons (.var 11) .nil))))) (.cons (.ret (.call 21 (.cons (.call 4 (.cons (.var 1) (.cons (.var 6) (.cons (.call 4 (.cons (.var 4) (.cons (.var 12) (.cons (.var 11) .nil)))) .nil)))) (.cons (.var 8) .nil)))) .nil)))))
def b__law_orders_hold_1 : CSs := (.cons (.set (.nm 7) (.call 4 (.cons (.call 4 (.cons (.var 1) (.cons (.var 5) (.cons (.var 3) .nil)))) (.cons (.var 6) (.cons (.var 4) .nil))))) (.cons (.set (.nm 8) (.call 17 (.cons (.call 17 (.cons (.var 1) (.cons (.var 6) (.cons (.var 4) .nil)))) (.cons (.var 5) (.cons (.var 3) .nil))))) (.cons (.set (.nm 9) (.call 14 (.cons (.var 1) .nil))) (.cons (.set (.nm 10) (.alloc (.cat (.q (.listRg (.lit (.int 0)) (.var 9))) (.q (.comp [ 14 ] (.nm 14) (.rg (.lit (.int 0)) (.agg .len (.e (.idx (.var 3) (.lit (.int 1)))))) (.bin .add (.bin .add (.var 9) (.agg .len (.e (.idx (.var 4) (.lit (.int 1)))))) (.var 14))))))) (.cons (.set (.nm 10) (.agg .tuple (.q (.cat (.e (.var 10)) (.q (.comp [ 14 ] (.nm 14) (.rg (.lit (.int 0)) (.agg .len (.e (.idx (.var 4) (.lit (.int 1)))))) (.bin .add (.var 9) (.var 14)))))))) (.cons (.ite (.not (.v (.call 21 (.cons (.call 3 (.cons (.var 7) (.cons (.var 10) .nil))) (.cons (.var 8) .nil))))) (.cons (.ret (.lit (.bl false))) .nil) .nil) b__law_orders_hold_2))))))
def b__law_orders_hold : CSs := (.cons (.set (.tup [ 3 , 4 ]) (.tup (.cons (.call 15 (.cons (.var 0) (.cons (.var 1) (.cons (.var 2) .nil)))) (.cons (.call 15 (.cons (.var 0) (.cons (.var 1) (.cons (.var 2) .nil)))) .nil)))) (.cons (.set (.tup [ 5 , 6 ]) (.tup (.cons (.call 16 (.cons (.var 0) (.cons (.var 1) (.cons (.var 3) .nil)))) (.cons (.call 16 (.cons (.var 0) (.cons (.var 1) (.cons (.var 4) .nil)))) .nil)))) (.cons (.ite (.or (.not (.v (.call 22 (.cons (.var 1) (.cons (.var 5) (.cons (.var 3) .nil)))))) (.not (.v (.call 22 (.cons (.var 1) (.cons (.var 6) (.cons (.var 4) .nil))))))) (.cons (.ret (.lit (.bl false))) .nil) .nil) b__law_orders_hold_1)))
def b__law_turned_holds_1 : CSs := (.cons (.ret (.call 21 (.cons (.call 3 (.cons (.call 4 (.cons (.var 1) (.cons (.var 4) (.cons (.var 3) .nil)))) (.cons (.var 7) .nil))) (.cons (.var 8) .nil)))) .nil)
def b__law_turned_holds : CSs := (.cons (.set (.nm 3) (.call 15 (.cons (.var 0) (.cons (.var 1) (.cons (.var 2) .nil))))) (.cons (.set (.nm 4) (.call 16 (.cons (.var 0) (.cons (.var 1) (.cons (.var 3) .nil))))) (.cons (.set (.nm 5) (.call 19 (.cons (.var 0) (.cons (.var 1) .nil)))) (.cons (.set (.nm 6) (.call 14 (.cons (.var 1) .nil))) (.cons (.set (.nm 7) (.bin .add (.var 5) (.agg .tuple (.q (.comp [ 11 ] (.nm 11) (.rg (.lit (.int 0)) (.agg .len (.e (.idx (.var 3) (.lit (.int 1)))))) (.bin .add (.var 6) (.var 11))))))) (.cons (.set (.nm 8) (.call 18 (.cons (.call 17 (.cons (.var 1) (.cons (.var 4) (.cons (.var 3) .nil)))) (.cons (.var 7) .nil)))) (.cons (.set (.nm 9) (.agg .tuple (.q (.comp [ 10 ] (.nm 10) (.r (.e (.var 4))) (.idx (.var 5) (.var 10)))))) (.cons (.ite (.not (.v (.call 21 (.cons (.call 4 (.cons (.call 3 (.cons (.var 1) (.cons (.var 5) .nil))) (.cons (.var 9) (.cons (.var 3) .nil)))) (.cons (.var 8) .nil))))) (.cons (.ret (.lit (.bl false))) .nil) .nil) b__law_turned_holds_1))))))))
def b__law_large_holds_1 : CSs := (.cons (.set (.nm 5) (.call 17 (.cons (.var 2) (.cons (.var 4) (.cons (.var 3) .nil))))) (.cons (.set (.nm 6) (.call 14 (.cons (.var 5) .nil))) (.cons (.set (.nm 7) (.bin .add (.idx (.var 5) (.lit (.int 0))) (.call 6 (.cons (.var 0) (.cons (.agg .len (.e (.idx (.var 5) (.lit (.int 1))))) .nil))))) (.cons (.set (.nm 8) (.agg .tuple (.q (.cat (.q (.cat (.q (.listRg (.lit (.int 0)) (.idx (.var 5) (.lit (.int 0))))) (.q (.listRg (.var 7) (.var 6))))) (.q (.listRg (.idx (.var 5) (.lit (.int 0))) (.var 7))))))) (.cons (.ret (.and (.call 25 (.cons (.var 5) (.cons (.var 8) .nil))) (.call 24 (.cons (.var 5) (.cons (.alloc (.disp (.cons (.lit (.int 0)) (.cons (.ife (.v (.cmp .gt (.idx (.var 3) (.lit (.int 0))) (.lit (.int 0)))) (.idx (.var 4) (.lit (.int 0))) (.lit (.int 1))) (.cons (.bin .sub (.var 6) (.lit (.int 1))) .nil))))) .nil))))) .nil)))))
def b__law_large_holds : CSs := (.cons (.set (.nm 2) (.call 13 (.cons (.var 0) (.cons (.call 6 (.cons (.var 0) (.cons (.lit (.int 4)) .nil))) (.cons (.bin .sub (.lit (.int 340)) (.call 6 (.cons (.var 0) (.cons (.lit (.int 3)) .nil)))) (.cons (.bin .sub (.lit (.int 700)) (.call 6 (.cons (.var 0) (.cons (.lit (.int 3)) .nil)))) (.cons (.var 1) .nil))))))) (.cons (.set (.nm 3) (.call 13 (.cons (.var 0) (.cons (.call 6 (.cons (.var 0) (.cons (.lit (.int 4)) .nil))) (.cons (.lit (.int 60)) (.cons (.lit (.int 100)) (.cons (.var 1) .nil))))))) (.cons (.set (.nm 4) (.call 16 (.cons (.var 0) (.cons (.var 2) (.cons (.var 3) .nil))))) (.cons (.ite (.not (.v (.call 22 (.cons (.var 2) (.cons (.var 4) (.cons (.var 3) .nil)))))) (.cons (.ret (.lit (.bl false))) .nil) .nil) b__law_large_holds_1))))
def b_law_2 : CSs := (.cons (.set (.nm 5) (.call 17 (.cons (.idx (.idx (.var 4) (.neg (.lit (.int 1)))) (.lit (.int 0))) (.cons (.idx (.idx (.var 4) (.neg (.lit (.int 1)))) (.lit (.int 1))) (.cons (.var 7) .nil))))) .nil)
def b_law_1 : CSs := (.cons (.set (.nm 7) (.call 15 (.cons (.var 1) (.cons (.var 5) (.cons (.var 2) .nil))))) (.cons (.ex (.app (.var 4) (.tup (.cons (.var 5) (.cons (.call 16 (.cons (.var 1) (.cons (.var 5) (.cons (.var 7) .nil)))) (.cons (.var 7) .nil)))))) (.cons (.ite (.not (.v (.call 22 (.cons (.idx (.idx (.var 4) (.neg (.lit (.int 1)))) (.lit (.int 0))) (.cons (.idx (.idx (.var 4) (.neg (.lit (.int 1)))) (.lit (.int 1))) (.cons (.var 7) .nil)))))) (.cons (.ret (.lit (.bl false))) .nil) .nil) b_law_2)))
def b_law_6 : CSs := (.cons (.ret (.call 22 (.cons (.idx (.idx (.var 4) (.lit (.int 0))) (.lit (.int 0))) (.cons (.idx (.idx (.var 4) (.lit (.int 0))) (.lit (.int 1))) (.cons (.idx (.idx (.var 4) (.lit (.int 0))) (.lit (.int 2))) .nil))))) .nil)
def b_law_5 : CSs := (.cons (.ite (.and (.v (.call 8 (.cons (.var 1) (.cons (.lit (.int 10)) .nil)))) (.not (.v (.call 28 (.cons (.var 1) (.cons (.var 2) .nil)))))) (.cons (.ret (.lit (.bl false))) .nil) .nil) b_law_6)
def b_law_4 : CSs := (.cons (.ite (.or (.not (.v (.call 26 (.cons (.var 1) (.cons (.var 3) (.cons (.var 2) .nil)))))) (.not (.v (.call 27 (.cons (.var 1) (.cons (.var 3) (.cons (.var 2) .nil))))))) (.cons (.ret (.lit (.bl false))) .nil) .nil) b_law_5)
def b_law_3 : CSs := (.cons (.ite (.or (.not (.v (.call 24 (.cons (.var 5) (.cons (.alloc (.listRg (.lit (.int 0)) (.call 14 (.cons (.var 5) .nil)))) .nil))))) (.not (.v (.call 25 (.cons (.var 5) (.cons (.call 19 (.cons (.var 1) (.cons (.var 5) .nil))) .nil)))))) (.cons (.ret (.lit (.bl false))) .nil) .nil) b_law_4)
def b_law : CSs := (.cons (.set (.nm 1) (.call 5 (.cons (.var 0) .nil))) (.cons (.set (.nm 2) (.alloc (.disp (.cons (.call 12 (.cons (.var 1) .nil)) (.cons (.call 12 (.cons (.var 1) .nil)) .nil))))) (.cons (.set (.nm 3) (.call 13 (.cons (.var 1) (.cons (.call 6 (.cons (.var 1) (.cons (.lit (.int 4)) .nil))) (.cons (.call 6 (.cons (.var 1) (.cons (.lit (.int 7)) .nil))) (.cons (.call 6 (.cons (.var 1) (.cons (.lit (.int 9)) .nil))) (.cons (.var 2) .nil))))))) (.cons (.set (.nm 4) (.alloc (.disp .nil))) (.cons (.set (.nm 5) (.var 3)) (.cons (.for (.nm 6) (.rg (.lit (.int 0)) (.bin .add (.lit (.int 1)) (.call 6 (.cons (.var 1) (.cons (.lit (.int 5)) .nil))))) b_law_1) b_law_3))))))
def T : List Fn := [⟨"spots_of", ["web"], 1, b_spots_of⟩,
  ⟨"ties_at", ["web", "spot", "found", "one", "other", "strand"], 2, b_ties_at⟩,
  ⟨"moved_ties", ["ties", "images", "found", "one", "other", "strand", "first", "second"], 2, b_moved_ties⟩,
  ⟨"renumber", ["web", "images", "marks", "k", "mark"], 2, b_renumber⟩,
  ⟨"glue", ["host", "places", "guest", "start", "images", "ties", "k"], 3, b_glue⟩,
  ⟨"_law_begin", ["script", "cell"], 1, b__law_begin⟩,
  ⟨"_law_draw", ["d", "many", "found", "size", "cell"], 2, b__law_draw⟩,
  ⟨"_law_pick", ["d", "row"], 2, b__law_pick⟩,
  ⟨"_law_rare", ["d", "many"], 2, b__law_rare⟩,
  ⟨"_law_shuffled", ["d", "row", "left", "found", "k"], 2, b__law_shuffled⟩,
  ⟨"_law_some", ["d", "row", "many"], 3, b__law_some⟩,
  ⟨"_law_is_int", ["thing"], 1, b__law_is_int⟩,
  ⟨"_law_letter", ["d"], 1, b__law_letter⟩,
  ⟨"_law_own_web", ["d", "arity", "inner", "many", "strands", "spots", "ties", "k", "one"], 5, b__law_own_web⟩,
  ⟨"_law_many", ["web"], 1, b__law_many⟩,
  ⟨"_law_guest", ["d", "host", "strands"], 3, b__law_guest⟩,
  ⟨"_law_places", ["d", "host", "guest"], 3, b__law_places⟩,
  ⟨"_law_glued", ["host", "places", "guest", "base", "ties", "one", "other", "strand", "first", "second"], 3, b__law_glued⟩,
  ⟨"_law_renumbered", ["web", "images", "pairs", "ties", "one", "other", "strand", "k", "at", "mark"], 2, b__law_renumbered⟩,
  ⟨"_law_images", ["d", "web"], 2, b__law_images⟩,
  ⟨"_law_is_tie", ["tie"], 1, b__law_is_tie⟩,
  ⟨"_law_is_web", ["told", "due", "tie"], 2, b__law_is_web⟩,
  ⟨"_law_glue_holds", ["host", "places", "guest"], 3, b__law_glue_holds⟩,
  ⟨"_law_ends_hold", ["web", "spot", "told", "due", "one", "other", "strand", "pair"], 2, b__law_ends_hold⟩,
  ⟨"_law_seen_holds", ["web", "spots", "many", "spot"], 2, b__law_seen_holds⟩,
  ⟨"_law_renumber_holds", ["web", "images", "due", "inverse", "k"], 2, b__law_renumber_holds⟩,
  ⟨"_law_orders_hold", ["d", "host", "strands", "one", "other", "here", "there", "both", "due", "spots", "images", "third", "within", "outer", "k", "q"], 3, b__law_orders_hold⟩,
  ⟨"_law_turned_holds", ["d", "host", "strands", "guest", "places", "images", "spots", "longer", "due", "moved", "place", "k"], 3, b__law_turned_holds⟩,
  ⟨"_law_large_holds", ["d", "strands", "host", "guest", "places", "web", "spots", "first", "images"], 2, b__law_large_holds⟩,
  ⟨"law", ["script", "d", "strands", "host", "asked", "web", "turn", "guest"], 1, b_law⟩]
/-! ### the head -/
@[reducible] def dd (x : Str) (i : Nat) : He.DefD := ⟨(x, none), x, x, defArgs (top i), defBody (top i), defScope (top i), [], []⟩
def fn : List He.DefD := [dd "spots_of" 1, dd "ties_at" 2, dd "moved_ties" 3, dd "renumber" 4, dd "glue" 5, dd "_law_begin" 7, dd "_law_draw" 8, dd "_law_pick" 9, dd "_law_rare" 10, dd "_law_shuffled" 11, dd "_law_some" 12, dd "_law_is_int" 13, dd "_law_letter" 14, dd "_law_own_web" 15, dd "_law_many" 16, dd "_law_guest" 17, dd "_law_places" 18, dd "_law_glued" 19, dd "_law_renumbered" 20, dd "_law_images" 21, dd "_law_is_tie" 22, dd "_law_is_web" 23, dd "_law_glue_holds" 24, dd "_law_ends_hold" 25, dd "_law_seen_holds" 26, dd "_law_renumber_holds" 27, dd "_law_orders_hold" 28, dd "_law_turned_holds" 29, dd "_law_large_holds" 30, dd "law" 31]
def fa : List He.Fa := (([.glo "spots_of", .glo "ties_at", .glo "moved_ties", .glo "renumber", .glo "glue", .glo "_law_begin", .glo "_law_draw", .glo "_law_pick", .glo "_law_rare", .glo "_law_shuffled", .glo "_law_some", .glo "_law_is_int", .glo "_law_letter", .glo "_law_own_web", .glo "_law_many", .glo "_law_guest", .glo "_law_places", .glo "_law_glued", .glo "_law_renumbered", .glo "_law_images", .glo "_law_is_tie", .glo "_law_is_web", .glo "_law_glue_holds", .glo "_law_ends_hold", .glo "_law_seen_holds", .glo "_law_renumber_holds", .glo "_law_orders_hold", .glo "_law_turned_holds", .glo "_law_large_holds", .glo "law"] : List He.Fa) ++ ([.free "len", .free "range", .free "tuple", .free "int", .free "sorted", .free "isinstance", .free "list", .free "min", .free "max", .free "all", .free "str", .free "abs", .free "bool"] : List He.Fa))
abbrev R : PySem.W.OpenRow := PySem.W.OpenLaw.row PySem.Challenge.rw_everygrown_k07_glued_webs
abbrev hk : PySem.W.Hook := PQ.hookP 4 fa fn Gs
def ob (s : PySem.W.SharedT) : He.AlD × Bool := PQ.obP 4 fa fn Gs (HandSHeadRun.getT s)
theorem ob_eq (s : PySem.W.SharedT) : ob s = hk.obs s.abs := PQ.obP_eq (HandSHeadRun.getT_eq s)
def loose : List Str := ["spots_of", "ties_at", "moved_ties", "renumber", "glue", "_law_begin", "_law_draw", "_law_pick", "_law_rare", "_law_shuffled", "_law_some", "_law_is_int", "_law_letter", "_law_own_web", "_law_many", "_law_guest", "_law_places", "_law_glued", "_law_renumbered", "_law_images", "_law_is_tie", "_law_is_web", "_law_glue_holds", "_law_ends_hold", "_law_seen_holds", "_law_renumber_holds", "_law_orders_hold", "_law_turned_holds", "_law_large_holds"]
theorem run (w : World) : HandSHeadRun.RunEq R (PySem.W.view R.prog [31]) hk ob 1500 loose w := by
  intro os
  kernel_rfl
/-! ### each def is what the language says -/
theorem c_spots_of : (cSs 60 60 ⟨names, B, ["web"], defScope (top 1), Gs⟩ (defBody (top 1))).map (·.val) = some b_spots_of := by kernel_rfl
theorem d_spots_of {K : Fg} {h : Heap} {mg : Str → Option Value} (X : K.In h) (G : h.Ns mainGlobals mg) (c : He.SaysD fa fn K) : DefOk K mg names B Gs ⟨"spots_of", ["web"], 1, b_spots_of⟩ :=
  def_ok (names := names) (B := B) (Gs := Gs) (N := ["web"]) (ps := ["web"]) X G c 0 (st := top 1) rfl 0 rfl c_spots_of ⟨rfl, rfl, rfl, by decide +kernel, rfl, by decide +kernel, by decide +kernel⟩ rfl fun _ _ _ _ _ _ us hl => match us, hl with | [_], _ => rfl
theorem c_ties_at : (cSs 60 60 ⟨names, B, ["web", "spot", "found", "one", "other", "strand"], defScope (top 2), Gs⟩ (defBody (top 2))).map (·.val) = some b_ties_at := by kernel_rfl
theorem d_ties_at {K : Fg} {h : Heap} {mg : Str → Option Value} (X : K.In h) (G : h.Ns mainGlobals mg) (c : He.SaysD fa fn K) : DefOk K mg names B Gs ⟨"ties_at", ["web", "spot", "found", "one", "other", "strand"], 2, b_ties_at⟩ :=
  def_ok (names := names) (B := B) (Gs := Gs) (N := ["web", "spot", "found", "one", "other", "strand"]) (ps := ["web", "spot"]) X G c 1 (st := top 2) rfl 1 rfl c_ties_at ⟨rfl, rfl, rfl, by decide +kernel, rfl, by decide +kernel, by decide +kernel⟩ rfl fun _ _ _ _ _ _ us hl => match us, hl with | [_, _], _ => rfl
theorem c_moved_ties : (cSs 60 60 ⟨names, B, ["ties", "images", "found", "one", "other", "strand", "first", "second"], defScope (top 3), Gs⟩ (defBody (top 3))).map (·.val) = some b_moved_ties := by kernel_rfl
theorem d_moved_ties {K : Fg} {h : Heap} {mg : Str → Option Value} (X : K.In h) (G : h.Ns mainGlobals mg) (c : He.SaysD fa fn K) : DefOk K mg names B Gs ⟨"moved_ties", ["ties", "images", "found", "one", "other", "strand", "first", "second"], 2, b_moved_ties⟩ :=
  def_ok (names := names) (B := B) (Gs := Gs) (N := ["ties", "images", "found", "one", "other", "strand", "first", "second"]) (ps := ["ties", "images"]) X G c 2 (st := top 3) rfl 2 rfl c_moved_ties ⟨rfl, rfl, rfl, by decide +kernel, rfl, by decide +kernel, by decide +kernel⟩ rfl fun _ _ _ _ _ _ us hl => match us, hl with | [_, _], _ => rfl
theorem c_renumber : (cSs 60 60 ⟨names, B, ["web", "images", "marks", "k", "mark"], defScope (top 4), Gs⟩ (defBody (top 4))).map (·.val) = some b_renumber := by kernel_rfl
theorem d_renumber {K : Fg} {h : Heap} {mg : Str → Option Value} (X : K.In h) (G : h.Ns mainGlobals mg) (c : He.SaysD fa fn K) : DefOk K mg names B Gs ⟨"renumber", ["web", "images", "marks", "k", "mark"], 2, b_renumber⟩ :=
  def_ok (names := names) (B := B) (Gs := Gs) (N := ["web", "images", "marks", "k", "mark"]) (ps := ["web", "images"]) X G c 3 (st := top 4) rfl 3 rfl c_renumber ⟨rfl, rfl, rfl, by decide +kernel, rfl, by decide +kernel, by decide +kernel⟩ rfl fun _ _ _ _ _ _ us hl => match us, hl with | [_, _], _ => rfl
theorem c_glue : (cSs 60 60 ⟨names, B, ["host", "places", "guest", "start", "images", "ties", "k"], defScope (top 5), Gs⟩ (defBody (top 5))).map (·.val) = some b_glue := by kernel_rfl
theorem d_glue {K : Fg} {h : Heap} {mg : Str → Option Value} (X : K.In h) (G : h.Ns mainGlobals mg) (c : He.SaysD fa fn K) : DefOk K mg names B Gs ⟨"glue", ["host", "places", "guest", "start", "images", "ties", "k"], 3, b_glue⟩ :=
  def_ok (names := names) (B := B) (Gs := Gs) (N := ["host", "places", "guest", "start", "images", "ties", "k"]) (ps := ["host", "places", "guest"]) X G c 4 (st := top 5) rfl 4 rfl c_glue ⟨rfl, rfl, rfl, by decide +kernel, rfl, by decide +kernel, by decide +kernel⟩ rfl fun _ _ _ _ _ _ us hl => match us, hl with | [_, _, _], _ => rfl
theorem c__law_begin : (cSs 60 60 ⟨names, B, ["script", "cell"], defScope (top 7), Gs⟩ (defBody (top 7))).map (·.val) = some b__law_begin := by kernel_rfl
theorem d__law_begin {K : Fg} {h : Heap} {mg : Str → Option Value} (X : K.In h) (G : h.Ns mainGlobals mg) (c : He.SaysD fa fn K) : DefOk K mg names B Gs ⟨"_law_begin", ["script", "cell"], 1, b__law_begin⟩ :=
  def_ok (names := names) (B := B) (Gs := Gs) (N := ["script", "cell"]) (ps := ["script"]) X G c 5 (st := top 7) rfl 5 rfl c__law_begin ⟨rfl, rfl, rfl, by decide +kernel, rfl, by decide +kernel, by decide +kernel⟩ rfl fun _ _ _ _ _ _ us hl => match us, hl with | [_], _ => rfl
theorem c__law_draw : (cSs 60 60 ⟨names, B, ["d", "many", "found", "size", "cell"], defScope (top 8), Gs⟩ (defBody (top 8))).map (·.val) = some b__law_draw := by kernel_rfl
theorem d__law_draw {K : Fg} {h : Heap} {mg : Str → Option Value} (X : K.In h) (G : h.Ns mainGlobals mg) (c : He.SaysD fa fn K) : DefOk K mg names B Gs ⟨"_law_draw", ["d", "many", "found", "size", "cell"], 2, b__law_draw⟩ :=
  def_ok (names := names) (B := B) (Gs := Gs) (N := ["d", "many", "found", "size", "cell"]) (ps := ["d", "many"]) X G c 6 (st := top 8) rfl 6 rfl c__law_draw ⟨rfl, rfl, rfl, by decide +kernel, rfl, by decide +kernel, by decide +kernel⟩ rfl fun _ _ _ _ _ _ us hl => match us, hl with | [_, _], _ => rfl
theorem c__law_pick : (cSs 60 60 ⟨names, B, ["d", "row"], defScope (top 9), Gs⟩ (defBody (top 9))).map (·.val) = some b__law_pick := by kernel_rfl
theorem d__law_pick {K : Fg} {h : Heap} {mg : Str → Option Value} (X : K.In h) (G : h.Ns mainGlobals mg) (c : He.SaysD fa fn K) : DefOk K mg names B Gs ⟨"_law_pick", ["d", "row"], 2, b__law_pick⟩ :=
  def_ok (names := names) (B := B) (Gs := Gs) (N := ["d", "row"]) (ps := ["d", "row"]) X G c 7 (st := top 9) rfl 7 rfl c__law_pick ⟨rfl, rfl, rfl, by decide +kernel, rfl, by decide +kernel, by decide +kernel⟩ rfl fun _ _ _ _ _ _ us hl => match us, hl with | [_, _], _ => rfl
theorem c__law_rare : (cSs 60 60 ⟨names, B, ["d", "many"], defScope (top 10), Gs⟩ (defBody (top 10))).map (·.val) = some b__law_rare := by kernel_rfl
theorem d__law_rare {K : Fg} {h : Heap} {mg : Str → Option Value} (X : K.In h) (G : h.Ns mainGlobals mg) (c : He.SaysD fa fn K) : DefOk K mg names B Gs ⟨"_law_rare", ["d", "many"], 2, b__law_rare⟩ :=
  def_ok (names := names) (B := B) (Gs := Gs) (N := ["d", "many"]) (ps := ["d", "many"]) X G c 8 (st := top 10) rfl 8 rfl c__law_rare ⟨rfl, rfl, rfl, by decide +kernel, rfl, by decide +kernel, by decide +kernel⟩ rfl fun _ _ _ _ _ _ us hl => match us, hl with | [_, _], _ => rfl
theorem c__law_shuffled : (cSs 60 60 ⟨names, B, ["d", "row", "left", "found", "k"], defScope (top 11), Gs⟩ (defBody (top 11))).map (·.val) = some b__law_shuffled := by kernel_rfl
theorem d__law_shuffled {K : Fg} {h : Heap} {mg : Str → Option Value} (X : K.In h) (G : h.Ns mainGlobals mg) (c : He.SaysD fa fn K) : DefOk K mg names B Gs ⟨"_law_shuffled", ["d", "row", "left", "found", "k"], 2, b__law_shuffled⟩ :=
  def_ok (names := names) (B := B) (Gs := Gs) (N := ["d", "row", "left", "found", "k"]) (ps := ["d", "row"]) X G c 9 (st := top 11) rfl 9 rfl c__law_shuffled ⟨rfl, rfl, rfl, by decide +kernel, rfl, by decide +kernel, by decide +kernel⟩ rfl fun _ _ _ _ _ _ us hl => match us, hl with | [_, _], _ => rfl
theorem c__law_some : (cSs 60 60 ⟨names, B, ["d", "row", "many"], defScope (top 12), Gs⟩ (defBody (top 12))).map (·.val) = some b__law_some := by kernel_rfl
theorem d__law_some {K : Fg} {h : Heap} {mg : Str → Option Value} (X : K.In h) (G : h.Ns mainGlobals mg) (c : He.SaysD fa fn K) : DefOk K mg names B Gs ⟨"_law_some", ["d", "row", "many"], 3, b__law_some⟩ :=
  def_ok (names := names) (B := B) (Gs := Gs) (N := ["d", "row", "many"]) (ps := ["d", "row", "many"]) X G c 10 (st := top 12) rfl 10 rfl c__law_some ⟨rfl, rfl, rfl, by decide +kernel, rfl, by decide +kernel, by decide +kernel⟩ rfl fun _ _ _ _ _ _ us hl => match us, hl with | [_, _, _], _ => rfl
theorem c__law_is_int : (cSs 60 60 ⟨names, B, ["thing"], defScope (top 13), Gs⟩ (defBody (top 13))).map (·.val) = some b__law_is_int := by kernel_rfl
theorem d__law_is_int {K : Fg} {h : Heap} {mg : Str → Option Value} (X : K.In h) (G : h.Ns mainGlobals mg) (c : He.SaysD fa fn K) : DefOk K mg names B Gs ⟨"_law_is_int", ["thing"], 1, b__law_is_int⟩ :=
  def_ok (names := names) (B := B) (Gs := Gs) (N := ["thing"]) (ps := ["thing"]) X G c 11 (st := top 13) rfl 11 rfl c__law_is_int ⟨rfl, rfl, rfl, by decide +kernel, rfl, by decide +kernel, by decide +kernel⟩ rfl fun _ _ _ _ _ _ us hl => match us, hl with | [_], _ => rfl
theorem c__law_letter : (cSs 60 60 ⟨names, B, ["d"], defScope (top 14), Gs⟩ (defBody (top 14))).map (·.val) = some b__law_letter := by kernel_rfl
theorem d__law_letter {K : Fg} {h : Heap} {mg : Str → Option Value} (X : K.In h) (G : h.Ns mainGlobals mg) (c : He.SaysD fa fn K) : DefOk K mg names B Gs ⟨"_law_letter", ["d"], 1, b__law_letter⟩ :=
  def_ok (names := names) (B := B) (Gs := Gs) (N := ["d"]) (ps := ["d"]) X G c 12 (st := top 14) rfl 12 rfl c__law_letter ⟨rfl, rfl, rfl, by decide +kernel, rfl, by decide +kernel, by decide +kernel⟩ rfl fun _ _ _ _ _ _ us hl => match us, hl with | [_], _ => rfl
theorem c__law_own_web : (cSs 60 60 ⟨names, B, ["d", "arity", "inner", "many", "strands", "spots", "ties", "k", "one"], defScope (top 15), Gs⟩ (defBody (top 15))).map (·.val) = some b__law_own_web := by kernel_rfl
theorem d__law_own_web {K : Fg} {h : Heap} {mg : Str → Option Value} (X : K.In h) (G : h.Ns mainGlobals mg) (c : He.SaysD fa fn K) : DefOk K mg names B Gs ⟨"_law_own_web", ["d", "arity", "inner", "many", "strands", "spots", "ties", "k", "one"], 5, b__law_own_web⟩ :=
  def_ok (names := names) (B := B) (Gs := Gs) (N := ["d", "arity", "inner", "many", "strands", "spots", "ties", "k", "one"]) (ps := ["d", "arity", "inner", "many", "strands"]) X G c 13 (st := top 15) rfl 13 rfl c__law_own_web ⟨rfl, rfl, rfl, by decide +kernel, rfl, by decide +kernel, by decide +kernel⟩ rfl fun _ _ _ _ _ _ us hl => match us, hl with | [_, _, _, _, _], _ => rfl
theorem c__law_many : (cSs 60 60 ⟨names, B, ["web"], defScope (top 16), Gs⟩ (defBody (top 16))).map (·.val) = some b__law_many := by kernel_rfl
theorem d__law_many {K : Fg} {h : Heap} {mg : Str → Option Value} (X : K.In h) (G : h.Ns mainGlobals mg) (c : He.SaysD fa fn K) : DefOk K mg names B Gs ⟨"_law_many", ["web"], 1, b__law_many⟩ :=
  def_ok (names := names) (B := B) (Gs := Gs) (N := ["web"]) (ps := ["web"]) X G c 14 (st := top 16) rfl 14 rfl c__law_many ⟨rfl, rfl, rfl, by decide +kernel, rfl, by decide +kernel, by decide +kernel⟩ rfl fun _ _ _ _ _ _ us hl => match us, hl with | [_], _ => rfl
theorem c__law_guest : (cSs 60 60 ⟨names, B, ["d", "host", "strands"], defScope (top 17), Gs⟩ (defBody (top 17))).map (·.val) = some b__law_guest := by kernel_rfl
theorem d__law_guest {K : Fg} {h : Heap} {mg : Str → Option Value} (X : K.In h) (G : h.Ns mainGlobals mg) (c : He.SaysD fa fn K) : DefOk K mg names B Gs ⟨"_law_guest", ["d", "host", "strands"], 3, b__law_guest⟩ :=
  def_ok (names := names) (B := B) (Gs := Gs) (N := ["d", "host", "strands"]) (ps := ["d", "host", "strands"]) X G c 15 (st := top 17) rfl 15 rfl c__law_guest ⟨rfl, rfl, rfl, by decide +kernel, rfl, by decide +kernel, by decide +kernel⟩ rfl fun _ _ _ _ _ _ us hl => match us, hl with | [_, _, _], _ => rfl
theorem c__law_places : (cSs 60 60 ⟨names, B, ["d", "host", "guest"], defScope (top 18), Gs⟩ (defBody (top 18))).map (·.val) = some b__law_places := by kernel_rfl
theorem d__law_places {K : Fg} {h : Heap} {mg : Str → Option Value} (X : K.In h) (G : h.Ns mainGlobals mg) (c : He.SaysD fa fn K) : DefOk K mg names B Gs ⟨"_law_places", ["d", "host", "guest"], 3, b__law_places⟩ :=
  def_ok (names := names) (B := B) (Gs := Gs) (N := ["d", "host", "guest"]) (ps := ["d", "host", "guest"]) X G c 16 (st := top 18) rfl 16 rfl c__law_places ⟨rfl, rfl, rfl, by decide +kernel, rfl, by decide +kernel, by decide +kernel⟩ rfl fun _ _ _ _ _ _ us hl => match us, hl with | [_, _, _], _ => rfl
theorem c__law_glued : (cSs 60 60 ⟨names, B, ["host", "places", "guest", "base", "ties", "one", "other", "strand", "first", "second"], defScope (top 19), Gs⟩ (defBody (top 19))).map (·.val) = some b__law_glued := by kernel_rfl
theorem d__law_glued {K : Fg} {h : Heap} {mg : Str → Option Value} (X : K.In h) (G : h.Ns mainGlobals mg) (c : He.SaysD fa fn K) : DefOk K mg names B Gs ⟨"_law_glued", ["host", "places", "guest", "base", "ties", "one", "other", "strand", "first", "second"], 3, b__law_glued⟩ :=
  def_ok (names := names) (B := B) (Gs := Gs) (N := ["host", "places", "guest", "base", "ties", "one", "other", "strand", "first", "second"]) (ps := ["host", "places", "guest"]) X G c 17 (st := top 19) rfl 17 rfl c__law_glued ⟨rfl, rfl, rfl, by decide +kernel, rfl, by decide +kernel, by decide +kernel⟩ rfl fun _ _ _ _ _ _ us hl => match us, hl with | [_, _, _], _ => rfl
theorem c__law_renumbered : (cSs 60 60 ⟨names, B, ["web", "images", "pairs", "ties", "one", "other", "strand", "k", "at", "mark"], defScope (top 20), Gs⟩ (defBody (top 20))).map (·.val) = some b__law_renumbered := by kernel_rfl
theorem d__law_renumbered {K : Fg} {h : Heap} {mg : Str → Option Value} (X : K.In h) (G : h.Ns mainGlobals mg) (c : He.SaysD fa fn K) : DefOk K mg names B Gs ⟨"_law_renumbered", ["web", "images", "pairs", "ties", "one", "other", "strand", "k", "at", "mark"], 2, b__law_renumbered⟩ :=
  def_ok (names := names) (B := B) (Gs := Gs) (N := ["web", "images", "pairs", "ties", "one", "other", "strand", "k", "at", "mark"]) (ps := ["web", "images"]) X G c 18 (st := top 20) rfl 18 rfl c__law_renumbered ⟨rfl, rfl, rfl, by decide +kernel, rfl, by decide +kernel, by decide +kernel⟩ rfl fun _ _ _ _ _ _ us hl => match us, hl with | [_, _], _ => rfl
theorem c__law_images : (cSs 60 60 ⟨names, B, ["d", "web"], defScope (top 21), Gs⟩ (defBody (top 21))).map (·.val) = some b__law_images := by kernel_rfl
theorem d__law_images {K : Fg} {h : Heap} {mg : Str → Option Value} (X : K.In h) (G : h.Ns mainGlobals mg) (c : He.SaysD fa fn K) : DefOk K mg names B Gs ⟨"_law_images", ["d", "web"], 2, b__law_images⟩ :=
  def_ok (names := names) (B := B) (Gs := Gs) (N := ["d", "web"]) (ps := ["d", "web"]) X G c 19 (st := top 21) rfl 19 rfl c__law_images ⟨rfl, rfl, rfl, by decide +kernel, rfl, by decide +kernel, by decide +kernel⟩ rfl fun _ _ _ _ _ _ us hl => match us, hl with | [_, _], _ => rfl
theorem c__law_is_tie : (cSs 60 60 ⟨names, B, ["tie"], defScope (top 22), Gs⟩ (defBody (top 22))).map (·.val) = some b__law_is_tie := by kernel_rfl
theorem d__law_is_tie {K : Fg} {h : Heap} {mg : Str → Option Value} (X : K.In h) (G : h.Ns mainGlobals mg) (c : He.SaysD fa fn K) : DefOk K mg names B Gs ⟨"_law_is_tie", ["tie"], 1, b__law_is_tie⟩ :=
  def_ok (names := names) (B := B) (Gs := Gs) (N := ["tie"]) (ps := ["tie"]) X G c 20 (st := top 22) rfl 20 rfl c__law_is_tie ⟨rfl, rfl, rfl, by decide +kernel, rfl, by decide +kernel, by decide +kernel⟩ rfl fun _ _ _ _ _ _ us hl => match us, hl with | [_], _ => rfl
theorem c__law_is_web : (cSs 60 60 ⟨names, B, ["told", "due", "tie"], defScope (top 23), Gs⟩ (defBody (top 23))).map (·.val) = some b__law_is_web := by kernel_rfl
theorem d__law_is_web {K : Fg} {h : Heap} {mg : Str → Option Value} (X : K.In h) (G : h.Ns mainGlobals mg) (c : He.SaysD fa fn K) : DefOk K mg names B Gs ⟨"_law_is_web", ["told", "due", "tie"], 2, b__law_is_web⟩ :=
  def_ok (names := names) (B := B) (Gs := Gs) (N := ["told", "due", "tie"]) (ps := ["told", "due"]) X G c 21 (st := top 23) rfl 21 rfl c__law_is_web ⟨rfl, rfl, rfl, by decide +kernel, rfl, by decide +kernel, by decide +kernel⟩ rfl fun _ _ _ _ _ _ us hl => match us, hl with | [_, _], _ => rfl
theorem c__law_glue_holds : (cSs 60 60 ⟨names, B, ["host", "places", "guest"], defScope (top 24), Gs⟩ (defBody (top 24))).map (·.val) = some b__law_glue_holds := by kernel_rfl
theorem d__law_glue_holds {K : Fg} {h : Heap} {mg : Str → Option Value} (X : K.In h) (G : h.Ns mainGlobals mg) (c : He.SaysD fa fn K) : DefOk K mg names B Gs ⟨"_law_glue_holds", ["host", "places", "guest"], 3, b__law_glue_holds⟩ :=
  def_ok (names := names) (B := B) (Gs := Gs) (N := ["host", "places", "guest"]) (ps := ["host", "places", "guest"]) X G c 22 (st := top 24) rfl 22 rfl c__law_glue_holds ⟨rfl, rfl, rfl, by decide +kernel, rfl, by decide +kernel, by decide +kernel⟩ rfl fun _ _ _ _ _ _ us hl => match us, hl with | [_, _, _], _ => rfl
theorem c__law_ends_hold : (cSs 60 60 ⟨names, B, ["web", "spot", "told", "due", "one", "other", "strand", "pair"], defScope (top 25), Gs⟩ (defBody (top 25))).map (·.val) = some b__law_ends_hold := by kernel_rfl
theorem d__law_ends_hold {K : Fg} {h : Heap} {mg : Str → Option Value} (X : K.In h) (G : h.Ns mainGlobals mg) (c : He.SaysD fa fn K) : DefOk K mg names B Gs ⟨"_law_ends_hold", ["web", "spot", "told", "due", "one", "other", "strand", "pair"], 2, b__law_ends_hold⟩ :=
  def_ok (names := names) (B := B) (Gs := Gs) (N := ["web", "spot", "told", "due", "one", "other", "strand", "pair"]) (ps := ["web", "spot"]) X G c 23 (st := top 25) rfl 23 rfl c__law_ends_hold ⟨rfl, rfl, rfl, by decide +kernel, rfl, by decide +kernel, by decide +kernel⟩ rfl fun _ _ _ _ _ _ us hl => match us, hl with | [_, _], _ => rfl
theorem c__law_seen_holds : (cSs 60 60 ⟨names, B, ["web", "spots", "many", "spot"], defScope (top 26), Gs⟩ (defBody (top 26))).map (·.val) = some b__law_seen_holds := by kernel_rfl
theorem d__law_seen_holds {K : Fg} {h : Heap} {mg : Str → Option Value} (X : K.In h) (G : h.Ns mainGlobals mg) (c : He.SaysD fa fn K) : DefOk K mg names B Gs ⟨"_law_seen_holds", ["web", "spots", "many", "spot"], 2, b__law_seen_holds⟩ :=
  def_ok (names := names) (B := B) (Gs := Gs) (N := ["web", "spots", "many", "spot"]) (ps := ["web", "spots"]) X G c 24 (st := top 26) rfl 24 rfl c__law_seen_holds ⟨rfl, rfl, rfl, by decide +kernel, rfl, by decide +kernel, by decide +kernel⟩ rfl fun _ _ _ _ _ _ us hl => match us, hl with | [_, _], _ => rfl
theorem c__law_renumber_holds : (cSs 60 60 ⟨names, B, ["web", "images", "due", "inverse", "k"], defScope (top 27), Gs⟩ (defBody (top 27))).map (·.val) = some b__law_renumber_holds := by kernel_rfl
theorem d__law_renumber_holds {K : Fg} {h : Heap} {mg : Str → Option Value} (X : K.In h) (G : h.Ns mainGlobals mg) (c : He.SaysD fa fn K) : DefOk K mg names B Gs ⟨"_law_renumber_holds", ["web", "images", "due", "inverse", "k"], 2, b__law_renumber_holds⟩ :=
  def_ok (names := names) (B := B) (Gs := Gs) (N := ["web", "images", "due", "inverse", "k"]) (ps := ["web", "images"]) X G c 25 (st := top 27) rfl 25 rfl c__law_renumber_holds ⟨rfl, rfl, rfl, by decide +kernel, rfl, by decide +kernel, by decide +kernel⟩ rfl fun _ _ _ _ _ _ us hl => match us, hl with | [_, _], _ => rfl
theorem c__law_orders_hold : (cSs 60 60 ⟨names, B, ["d", "host", "strands", "one", "other", "here", "there", "both", "due", "spots", "images", "third", "within", "outer", "k", "q"], defScope (top 28), Gs⟩ (defBody (top 28))).map (·.val) = some b__law_orders_hold := by kernel_rfl
theorem d__law_orders_hold {K : Fg} {h : Heap} {mg : Str → Option Value} (X : K.In h) (G : h.Ns mainGlobals mg) (c : He.SaysD fa fn K) : DefOk K mg names B Gs ⟨"_law_orders_hold", ["d", "host", "strands", "one", "other", "here", "there", "both", "due", "spots", "images", "third", "within", "outer", "k", "q"], 3, b__law_orders_hold⟩ :=
  def_ok (names := names) (B := B) (Gs := Gs) (N := ["d", "host", "strands", "one", "other", "here", "there", "both", "due", "spots", "images", "third", "within", "outer", "k", "q"]) (ps := ["d", "host", "strands"]) X G c 26 (st := top 28) rfl 26 rfl c__law_orders_hold ⟨rfl, rfl, rfl, by decide +kernel, rfl, by decide +kernel, by decide +kernel⟩ rfl fun _ _ _ _ _ _ us hl => match us, hl with | [_, _, _], _ => rfl
theorem c__law_turned_holds : (cSs 60 60 ⟨names, B, ["d", "host", "strands", "guest", "places", "images", "spots", "longer", "due", "moved", "place", "k"], defScope (top 29), Gs⟩ (defBody (top 29))).map (·.val) = some b__law_turned_holds := by kernel_rfl
theorem d__law_turned_holds {K : Fg} {h : Heap} {mg : Str → Option Value} (X : K.In h) (G : h.Ns mainGlobals mg) (c : He.SaysD fa fn K) : DefOk K mg names B Gs ⟨"_law_turned_holds", ["d", "host", "strands", "guest", "places", "images", "spots", "longer", "due", "moved", "place", "k"], 3, b__law_turned_holds⟩ :=
  def_ok (names := names) (B := B) (Gs := Gs) (N := ["d", "host", "strands", "guest", "places", "images", "spots", "longer", "due", "moved", "place", "k"]) (ps := ["d", "host", "strands"]) X G c 27 (st := top 29) rfl 27 rfl c__law_turned_holds ⟨rfl, rfl, rfl, by decide +kernel, rfl, by decide +kernel, by decide +kernel⟩ rfl fun _ _ _ _ _ _ us hl => match us, hl with | [_, _, _], _ => rfl
theorem c__law_large_holds : (cSs 60 60 ⟨names, B, ["d", "strands", "host", "guest", "places", "web", "spots", "first", "images"], defScope (top 30), Gs⟩ (defBody (top 30))).map (·.val) = some b__law_large_holds := by kernel_rfl
theorem d__law_large_holds {K : Fg} {h : Heap} {mg : Str → Option Value} (X : K.In h) (G : h.Ns mainGlobals mg) (c : He.SaysD fa fn K) : DefOk K mg names B Gs ⟨"_law_large_holds", ["d", "strands", "host", "guest", "places", "web", "spots", "first", "images"], 2, b__law_large_holds⟩ :=
  def_ok (names := names) (B := B) (Gs := Gs) (N := ["d", "strands", "host", "guest", "places", "web", "spots", "first", "images"]) (ps := ["d", "strands"]) X G c 28 (st := top 30) rfl 28 rfl c__law_large_holds ⟨rfl, rfl, rfl, by decide +kernel, rfl, by decide +kernel, by decide +kernel⟩ rfl fun _ _ _ _ _ _ us hl => match us, hl with | [_, _], _ => rfl
theorem c_law : (cSs 60 60 ⟨names, B, ["script", "d", "strands", "host", "asked", "web", "turn", "guest"], defScope (top 31), Gs⟩ (defBody (top 31))).map (·.val) = some b_law := by kernel_rfl
theorem d_law {K : Fg} {h : Heap} {mg : Str → Option Value} (X : K.In h) (G : h.Ns mainGlobals mg) (c : He.SaysD fa fn K) : DefOk K mg names B Gs ⟨"law", ["script", "d", "strands", "host", "asked", "web", "turn", "guest"], 1, b_law⟩ :=
  def_ok (names := names) (B := B) (Gs := Gs) (N := ["script", "d", "strands", "host", "asked", "web", "turn", "guest"]) (ps := ["script"]) X G c 29 (st := top 31) rfl 29 rfl c_law ⟨rfl, rfl, rfl, by decide +kernel, rfl, by decide +kernel, by decide +kernel⟩ rfl fun _ _ _ _ _ _ us hl => match us, hl with | [_], _ => rfl
theorem defs {K : Fg} {h : Heap} {mg : Str → Option Value} (X : K.In h) (G : h.Ns mainGlobals mg) (c : He.SaysD fa fn K) : ∀ f ∈ T, DefOk K mg names B Gs f := by
  intro f hf
  simp only [T, List.mem_cons, List.not_mem_nil, or_false] at hf
  rcases hf with rfl | rfl | rfl | rfl | rfl | rfl | rfl | rfl | rfl | rfl | rfl | rfl | rfl | rfl | rfl | rfl | rfl | rfl | rfl | rfl | rfl | rfl | rfl | rfl | rfl | rfl | rfl | rfl | rfl | rfl
  · exact d_spots_of X G c
  · exact d_ties_at X G c
  · exact d_moved_ties X G c
  · exact d_renumber X G c
  · exact d_glue X G c
  · exact d__law_begin X G c
  · exact d__law_draw X G c
  · exact d__law_pick X G c
  · exact d__law_rare X G c
  · exact d__law_shuffled X G c
  · exact d__law_some X G c
  · exact d__law_is_int X G c
  · exact d__law_letter X G c
  · exact d__law_own_web X G c
  · exact d__law_many X G c
  · exact d__law_guest X G c
  · exact d__law_places X G c
  · exact d__law_glued X G c
  · exact d__law_renumbered X G c
  · exact d__law_images X G c
  · exact d__law_is_tie X G c
  · exact d__law_is_web X G c
  · exact d__law_glue_holds X G c
  · exact d__law_ends_hold X G c
  · exact d__law_seen_holds X G c
  · exact d__law_renumber_holds X G c
  · exact d__law_orders_hold X G c
  · exact d__law_turned_holds X G c
  · exact d__law_large_holds X G c
  · exact d_law X G c
theorem frees {K : Fg} {h : Heap} {mg : Str → Option Value} (X : K.In h) (G : h.Ns mainGlobals mg) (c : He.SaysD fa fn K) : ∀ x ∈ B, mg x = none := by
  intro x hx
  simp only [B, List.mem_cons, List.not_mem_nil, or_false] at hx
  rcases hx with rfl | rfl | rfl | rfl | rfl | rfl | rfl | rfl | rfl | rfl | rfl | rfl | rfl
  · exact He.free_ok X G (c.fact 30 (f := .free "len") rfl)
  · exact He.free_ok X G (c.fact 31 (f := .free "range") rfl)
  · exact He.free_ok X G (c.fact 32 (f := .free "tuple") rfl)
  · exact He.free_ok X G (c.fact 33 (f := .free "int") rfl)
  · exact He.free_ok X G (c.fact 34 (f := .free "sorted") rfl)
  · exact He.free_ok X G (c.fact 35 (f := .free "isinstance") rfl)
  · exact He.free_ok X G (c.fact 36 (f := .free "list") rfl)
  · exact He.free_ok X G (c.fact 37 (f := .free "min") rfl)
  · exact He.free_ok X G (c.fact 38 (f := .free "max") rfl)
  · exact He.free_ok X G (c.fact 39 (f := .free "all") rfl)
  · exact He.free_ok X G (c.fact 40 (f := .free "str") rfl)
  · exact He.free_ok X G (c.fact 41 (f := .free "abs") rfl)
  · exact He.free_ok X G (c.fact 42 (f := .free "bool") rfl)
end K07
section
open PySem PySem.Spec PyProof.Rows L2 PQ
namespace K07
local macro_rules
  | `(tactic| mul_fits) => `(tactic| (repeat (first
    | (with_reducible refine PQ.w_scons ?_)
    | ((with_reducible apply PQ.w_var); (focus (exact rfl)))
    | (with_reducible refine PQ.w_bin ?_)
    | (with_reducible refine PQ.w_call ?_)
    | (with_reducible refine PQ.w_cons ?_)
    | (with_reducible refine PQ.w_nil ?_)
    | (with_reducible refine PQ.w_lit ?_)
    | (with_reducible refine PQ.w_cmp ?_)
    | (with_reducible refine PQ.w_idx ?_)
    | (with_reducible refine PQ.w_set ?_)
    | (with_reducible refine PQ.w_ret ?_)
    | (with_reducible refine PQ.w_ite ?_)
    | (with_reducible refine PQ.w_tv ?_)
    | (with_reducible refine PQ.w_tnot ?_)
    | (with_reducible refine PQ.w_nx ?_)
    | (with_reducible refine PQ.w_rt ?_)
    | (with_reducible refine PQ.w_if_t ?_)
    | (with_reducible refine PQ.w_if_f ?_)
    | (with_reducible refine PQ.w_if_nt ?_)
    | (with_reducible refine PQ.w_if_nf ?_)
    | (with_reducible refine PQ.w_tru_b ?_)
    | (with_reducible refine PQ.w_tru_i ?_)
    | (with_reducible refine PQ.w_tru_t ?_)
    | (with_reducible refine PQ.w_ok ?_)
    | (with_reducible refine PQ.w_snil ?_)
    | (with_reducible refine PQ.w_ex ?_)
    | (with_reducible refine PQ.w_agg ?_)
    | (with_reducible refine PQ.w_fn1 ?_)
    | (with_reducible refine PQ.w_fn2 ?_)
    | (with_reducible refine PQ.w_tup ?_)
    | (with_reducible refine PQ.w_alloc ?_)
    | (with_reducible refine PQ.w_disp ?_)
    | (with_reducible refine PQ.w_e ?_)
    | (with_reducible refine PQ.w_q ?_)
    | (with_reducible refine PQ.w_ir ?_)
    | (with_reducible refine PQ.w_for ?_)
    | (with_reducible refine PQ.w_comp ?_)
    | (with_reducible refine PQ.w_compIf ?_)
    | (with_reducible refine PQ.w_and ?_)
    | (with_reducible refine PQ.w_or ?_)
    | (with_reducible refine PQ.w_not ?_)
    | (with_reducible refine PQ.w_ife ?_)
    | (with_reducible refine PQ.w_slc ?_)
    | (with_reducible refine PQ.w_oN ?_)
    | (with_reducible refine PQ.w_isi ?_)
    | (with_reducible refine PQ.w_app ?_)
    | (with_reducible refine PQ.w_ext ?_)
    | (with_reducible refine PQ.w_pop ?_)
    | (with_reducible refine PQ.w_popAt ?_)
    | (with_reducible refine PQ.w_join ?_)
    | (with_reducible refine PQ.w_tix ?_)
    | (with_reducible refine PQ.w_isN ?_)
    | (with_reducible refine PQ.w_notN ?_)
    | (with_reducible refine PQ.w_inr ?_)
    | (with_reducible refine PQ.w_notInr ?_)
    | (with_reducible refine PQ.w_chn ?_)
    | (with_reducible refine PQ.w_tand ?_)
    | (with_reducible refine PQ.w_tor ?_)
    | (with_reducible refine PQ.w_cat ?_)
    | (with_reducible refine PQ.w_sorted ?_)
    | (with_reducible refine PQ.w_list ?_)
    | (with_reducible refine PQ.w_rev ?_)
    | (with_reducible refine PQ.w_setT ?_)
    | (with_reducible refine PQ.w_par ?_)
    | (with_reducible refine PQ.w_sub ?_)
    | (with_reducible refine PQ.w_bk ?_)
    | (with_reducible refine PQ.w_ct ?_)
    | (with_reducible refine PQ.w_brk ?_)
    | (with_reducible refine PQ.w_cont ?_)
    | (with_reducible refine PQ.w_pass ?_)
    | (with_reducible refine PQ.v_add ?_)
    | (with_reducible refine PQ.v_sub ?_)
    | (with_reducible refine PQ.v_band ?_)
    | (with_reducible refine PQ.v_bor ?_)
    | (with_reducible refine PQ.v_bxor ?_)
    | (with_reducible refine PQ.v_augAdd ?_)
    | (with_reducible refine PQ.v_augSub ?_)
    | (with_reducible refine PQ.v_lt ?_)
    | (with_reducible refine PQ.v_le ?_)
    | (with_reducible refine PQ.v_gt ?_)
    | (with_reducible refine PQ.v_ge ?_)
    | (with_reducible refine PQ.v_eq ?_)
    | (with_reducible refine PQ.v_ne ?_)
    | (with_reducible refine PQ.v_eqS ?_)
    | (with_reducible refine PQ.v_neS ?_)
    | (with_reducible refine PQ.v_eqB ?_)
    | (with_reducible refine PQ.v_intI ?_)
    | (with_reducible refine PQ.v_intB ?_)
    | (with_reducible refine PQ.v_abs ?_)
    | (with_reducible refine PQ.v_gcd ?_)
    | (with_reducible refine PQ.v_min2 ?_)
    | (with_reducible refine PQ.v_max2 ?_)
    | (with_reducible refine PQ.v_slcT ?_)
    | (with_reducible refine PQ.w_bind ?_)
    | (with_reducible refine PQ.r_nx ?_)
    | (with_reducible refine PQ.r_rt ?_)
    | (with_reducible refine PQ.g_self ?_)
    | ((with_reducible apply PQ.w_aug); (focus (exact rfl)))
    | (with_reducible refine PQ.w_neg ?_)
    | (with_reducible refine PQ.w_oS ?_)
    | (with_reducible refine PQ.w_listRg ?_)
    | (with_reducible refine PQ.w_rg ?_)
    | (with_reducible refine PQ.w_augS ?_)
    | ((with_reducible apply PQ.v_mul); (focus (first | assumption | exact .of_left (by decide +kernel) | exact .of_right (by decide +kernel))))
    | ((with_reducible apply PQ.v_fdiv); (focus (first | assumption | exact ⟨by omega, PyProof.noPylong_small (by omega)⟩)))
    | ((with_reducible apply PQ.v_mod); (focus (first | assumption | omega)))
    | ((with_reducible apply PQ.v_pow); (focus (first | assumption | (unfold CPow; decide +kernel) | (unfold CPow; omega))))
    | ((with_reducible apply PQ.v_shl); (focus (first | assumption | (unfold CPow; decide +kernel) | (unfold CPow; omega))))
    | ((with_reducible apply PQ.v_shr); (focus (first | assumption | omega)))
    | ((with_reducible apply PQ.v_idx); (focus (first | exact rfl | assumption)); (focus (first | exact rfl | assumption)))
    | ((with_reducible apply PQ.v_idxT); (focus (first | exact rfl | assumption)))
    | ((with_reducible apply PQ.v_idxF); (focus (first | exact rfl | assumption)))
    | ((with_reducible apply PQ.v_len); (focus (first | exact rfl | assumption)))
    | ((with_reducible apply PQ.v_tuple); (focus (first | exact rfl | assumption)))
    | ((with_reducible apply PQ.v_sum); (focus (first | exact rfl | assumption)); (focus (first | exact rfl | assumption)))
    | ((with_reducible apply PQ.v_all); (focus (first | exact rfl | assumption)); (focus (first | exact rfl | assumption)))
    | ((with_reducible apply PQ.v_any); (focus (first | exact rfl | assumption)); (focus (first | exact rfl | assumption)))
    | ((with_reducible apply PQ.v_slc); (focus (first | exact rfl | assumption)))
    | ((with_reducible apply PQ.v_set); (focus (first | exact rfl | assumption)); (focus (first | exact rfl | assumption)))
    | ((with_reducible apply PQ.v_lenS); (focus (refine Nat.le_trans (Nat.le_refl _) ?_; first | assumption | (refine PQ.le64 ?_; simp; done) | omega)))
    | ((with_reducible apply PQ.v_idxS); (focus (refine Nat.le_trans (Nat.le_refl _) ?_; first | assumption | (refine PQ.le64 ?_; simp; done) | omega)); (focus (first | exact rfl | assumption)))
    | ((with_reducible apply PQ.w_withL); (focus (first | exact rfl | assumption)))
    | ((with_reducible apply PQ.v_app); (focus (first | exact rfl | assumption)); (focus (first | assumption | exact Nat.lt_of_lt_of_le (Nat.lt_succ_self _) (Nat.le_of_ble_eq_true rfl) | omega)))
    | ((with_reducible apply PQ.v_addT); (focus (refine Nat.le_trans (Nat.le_refl _) ?_; first | assumption | (refine PQ.le64 ?_; simp; done) | omega)))
    | ((with_reducible apply PQ.v_addS); (focus (refine Nat.le_trans (Nat.le_refl _) ?_; first | assumption | (refine PQ.le64 ?_; simp; done) | omega)))
    | ((with_reducible apply PQ.v_addL); (focus (first | exact rfl | assumption)); (focus (first | exact rfl | assumption)); (focus (refine Nat.le_trans (Nat.le_refl _) ?_; first | assumption | (refine PQ.le64 ?_; simp; done) | omega)))
    | ((with_reducible apply PQ.w_tru_r); (focus (first | exact rfl | assumption)))
    | ((with_reducible apply PQ.w_if_T); (focus (exact rfl)))
    | ((with_reducible apply PQ.w_if_F); (focus (exact rfl)))
    | ((with_reducible apply PQ.w_may); (focus (exact rfl)))
    | ((with_reducible refine ⟨_, rfl, ?_⟩))
    | ((with_reducible apply PQ.w_augK); (focus (first | exact rfl | assumption)); (focus (first | exact rfl | assumption)))
    | ((with_reducible refine ⟨_, _, rfl, rfl, ?_, ?_⟩); (focus (first | assumption | (unfold bd62; omega) | (unfold RgOk; omega))))
    | ((with_reducible refine ⟨?_, ?_⟩); (focus (refine Nat.le_trans (Nat.le_refl _) ?_; first | assumption | (refine PQ.le64 ?_; simp; done) | omega))))))
/-! ### webs, plain -/
structure Pt where
  one : Nat
  other : Nat
  strand : Str
abbrev Pt.d (s : Pt) : D := .tup [.int (s.one : Nat), .int (s.other : Nat), .str s.strand]
def Pt.p (s : Pt) : PyData := .tuple [.int (s.one : Nat), .int (s.other : Nat), .str s.strand]
theorem sort_congr2 {β : Type} {k : β → PyData} (inj : ∀ a b, PySem.W.keyToks (k a) = PySem.W.keyToks (k b) → a = b) {l m : List β} (h : l.Perm m) : l.mergeSort (PySem.W.dataLe false k) = m.mergeSort (PySem.W.dataLe false k) := by
  have tl : PySem.W.TotalLe (PySem.W.dataLe false k) := PySem.W.sortLe_total _ false _
  refine List.Perm.eq_of_pairwise (le := fun a b => PySem.W.dataLe false k a b = true) (fun a b _ _ h1 h2 => inj _ _ ?_) (PySem.W.sort_pairwise tl l) (PySem.W.sort_pairwise tl m) ((List.mergeSort_perm l _).trans (h.trans (List.mergeSort_perm m _).symm))
  rw [PySem.W.dataLe_eq] at h1 h2
  have h1 : (!PySem.W.dataLt (k b) (k a)) = true := h1
  have h2 : (!PySem.W.dataLt (k a) (k b)) = true := h2
  have q1 : PySem.W.dataLt (k b) (k a) = false := by simpa using h1
  have q2 : PySem.W.dataLt (k a) (k b) = false := by simpa using h2
  exact (PyProof.Rows.listOrd PyProof.Rows.itemOrd).total _ _ q2 q1
theorem pt_inj (a b : Pt) (h : PySem.W.keyToks a.p = PySem.W.keyToks b.p) : a = b := by
  simp [Pt.p, PySem.W.keyToks, PySem.W.keyToksAll] at h
  obtain ⟨h1, h2, h3⟩ := h
  cases a
  cases b
  simp at h1 h2 h3 ⊢
  exact ⟨by omega, by omega, PySem.W.str_of_cps (by rw [h3])⟩
def srt (l : List Pt) : List Pt := l.mergeSort (PySem.W.dataLe false Pt.p)
theorem srt_perm (l : List Pt) : (srt l).Perm l := List.mergeSort_perm _ _
theorem srt_congr {l m : List Pt} (h : l.Perm m) : srt l = srt m := sort_congr2 pt_inj h
theorem srt_srt (l : List Pt) : srt (srt l) = srt l := srt_congr (srt_perm l)
def mv (f : Nat → Nat) (p : Pt) : Pt := ⟨min (f p.one) (f p.other), max (f p.one) (f p.other), p.strand⟩
theorem mv_mv {f g : Nat → Nat} {p : Pt} : mv g (mv f p) = mv (fun q => g (f q)) p := by
  unfold mv
  have h1 : min (f p.one) (f p.other) = f p.one ∧ max (f p.one) (f p.other) = f p.other ∨ min (f p.one) (f p.other) = f p.other ∧ max (f p.one) (f p.other) = f p.one := by omega
  rcases h1 with ⟨e1, e2⟩ | ⟨e1, e2⟩
  · simp only [e1, e2]
  · simp only [e1, e2, Nat.min_comm (g (f p.other)), Nat.max_comm (g (f p.other))]
theorem mv_congr {f g : Nat → Nat} {p : Pt} (h1 : f p.one = g p.one) (h2 : f p.other = g p.other) : mv f p = mv g p := by
  unfold mv
  rw [h1, h2]
theorem mv_id {f : Nat → Nat} {p : Pt} (h : p.one < p.other) (h1 : f p.one = p.one) (h2 : f p.other = p.other) : mv f p = p := by
  unfold mv
  rw [h1, h2, Nat.min_eq_left (by omega), Nat.max_eq_right (by omega)]
structure Wb where
  ar : Nat
  cs : List Nat
  ts : List Pt
abbrev Wb.spots (w : Wb) : Nat := w.ar + w.cs.length
theorem Wb.sp (w : Wb) : w.spots = w.ar + w.cs.length := rfl
theorem wb_eq {a b : Wb} (h1 : a.ar = b.ar) (h2 : a.cs = b.cs) (h3 : a.ts = b.ts) : a = b := by
  cases a
  cases b
  simp only at h1 h2 h3
  rw [h1, h2, h3]
def stS (cs : List Nat) : Str := ⟨cs.toArray⟩
abbrev Wb.d (w : Wb) : D := .tup [.int (w.ar : Nat), .str (stS w.cs), .tup (w.ts.map Pt.d)]
/-- a right web, its ties in order -/
structure Wb.Ok (w : Wb) : Prop where
  tie : ∀ p ∈ w.ts, p.one < p.other ∧ p.other < w.spots
  ord : srt w.ts = w.ts
  arl : w.ar ≤ 3
def imG (pl : List Nat) (a start : Nat) : Nat → Nat := fun q => if q < a then pl.getD q 0 else start + (q - a)
def glu (h : Wb) (pl : List Nat) (g : Wb) : Wb := ⟨h.ar, h.cs ++ g.cs, srt (h.ts ++ g.ts.map (mv (imG pl g.ar h.spots)))⟩
/-- places for a guest -/
structure PlOk (h : Wb) (pl : List Nat) (a : Nat) : Prop where
  len : pl.length = a
  nd : pl.Nodup
  lt : ∀ x ∈ pl, x < h.spots
theorem PlOk.at {h : Wb} {pl : List Nat} {a q : Nat} (o : PlOk h pl a) (hq : q < a) : pl.getD q 0 < h.spots := by
  have hl := o.len
  have e : pl.getD q 0 = pl[q] := by simp [List.getD, hl, hq]
  rw [e]
  exact o.lt _ (List.getElem_mem (by omega))
theorem PlOk.ne {h : Wb} {pl : List Nat} {a q r : Nat} (o : PlOk h pl a) (hq : q < a) (hr : r < a) (hqr : q ≠ r) : pl.getD q 0 ≠ pl.getD r 0 := by
  have hl := o.len
  have e1 : pl.getD q 0 = pl[q] := by simp [List.getD, hl, hq]
  have e2 : pl.getD r 0 = pl[r] := by simp [List.getD, hl, hr]
  rw [e1, e2]
  intro e
  have f1 := List.Nodup.idxOf_getElem o.nd q (by omega)
  have f2 := List.Nodup.idxOf_getElem o.nd r (by omega)
  rw [e, f2] at f1
  exact hqr f1.symm
theorem imG_lt {h g : Wb} {pl : List Nat} (o : PlOk h pl g.ar) {q : Nat} (hq : q < g.spots) : imG pl g.ar h.spots q < h.spots + g.cs.length := by
  unfold imG
  split
  · have := o.at ‹_›
    omega
  · unfold Wb.spots at *
    omega
theorem imG_ne {h g : Wb} {pl : List Nat} (o : PlOk h pl g.ar) {q r : Nat} (hqr : q ≠ r) : imG pl g.ar h.spots q ≠ imG pl g.ar h.spots r := by
  unfold imG
  split
  · have := o.at ‹_›
    split
    · exact o.ne ‹_› ‹_› hqr
    · omega
  · split
    · have := o.at ‹_›
      omega
    · omega
theorem glu_ok {h g : Wb} {pl : List Nat} (hh : h.Ok) (hg : g.Ok) (o : PlOk h pl g.ar) : (glu h pl g).Ok := by
  refine ⟨fun p hp => ?_, srt_srt _, hh.arl⟩
  have hp := (srt_perm _).mem_iff.mp hp
  have es : (glu h pl g).spots = h.spots + g.cs.length := by
    show h.ar + (h.cs ++ g.cs).length = h.ar + h.cs.length + g.cs.length
    rw [List.length_append]
    omega
  rw [es]
  rcases List.mem_append.mp hp with hp | hp
  · have := hh.tie p hp
    omega
  · obtain ⟨q, hq, rfl⟩ := List.mem_map.mp hp
    obtain ⟨h1, h2⟩ := hg.tie q hq
    have a1 := imG_lt o (show q.one < g.spots by omega)
    have a2 := imG_lt o h2
    have a3 := imG_ne o (show q.one ≠ q.other by omega)
    show min _ _ < max _ _ ∧ max _ _ < _
    omega
theorem glu_spots {h g : Wb} {pl : List Nat} : (glu h pl g).spots = h.spots + g.cs.length := by
  show h.ar + (h.cs ++ g.cs).length = h.ar + h.cs.length + g.cs.length
  rw [List.length_append]
  omega
/-! ### renumbering -/
structure Bij (im inv : Nat → Nat) (ar n : Nat) : Prop where
  j1 : ∀ q, q < ar → im q = q
  j2 : ∀ q, q < ar → inv q = q
  h1 : ∀ q, ar ≤ q → q < ar + n → ar ≤ im q ∧ im q < ar + n ∧ inv (im q) = q
  h2 : ∀ q, ar ≤ q → q < ar + n → ar ≤ inv q ∧ inv q < ar + n ∧ im (inv q) = q
theorem Bij.symm {im inv : Nat → Nat} {ar n : Nat} (b : Bij im inv ar n) : Bij inv im ar n := ⟨b.j2, b.j1, b.h2, b.h1⟩
theorem Bij.lt {im inv : Nat → Nat} {ar n q : Nat} (b : Bij im inv ar n) (h : q < ar + n) : im q < ar + n := by
  by_cases e : q < ar
  · rw [b.j1 q e]
    omega
  · exact (b.h1 q (by omega) h).2.1
theorem Bij.back {im inv : Nat → Nat} {ar n q : Nat} (b : Bij im inv ar n) (h : q < ar + n) : inv (im q) = q := by
  by_cases e : q < ar
  · rw [b.j1 q e, b.j2 q e]
  · exact (b.h1 q (by omega) h).2.2
/-- what stands at its new place -/
def Put (cs : List Nat) (ar : Nat) (im : Nat → Nat) (R : List Nat) : Prop := R.length = cs.length ∧ ∀ k, k < cs.length → R.getD (im (ar + k) - ar) 0 = cs.getD k 0
theorem put_uniq {cs : List Nat} {ar : Nat} {im inv : Nat → Nat} (b : Bij im inv ar cs.length) {R R' : List Nat} (h : Put cs ar im R) (h' : Put cs ar im R') : R = R' := by
  refine List.ext_getElem (by rw [h.1, h'.1]) fun j h1 h2 => ?_
  have hj : j < cs.length := by rw [← h.1]; exact h1
  obtain ⟨c1, c2, c3⟩ := b.h2 (ar + j) (by omega) (by omega)
  have e1 := h.2 (inv (ar + j) - ar) (by omega)
  have e2 := h'.2 (inv (ar + j) - ar) (by omega)
  rw [show ar + (inv (ar + j) - ar) = inv (ar + j) by omega, c3, Nat.add_sub_cancel_left] at e1 e2
  have := e1.trans e2.symm
  simpa [List.getD, h1, h2] using this
def putm (cs : List Nat) (ar : Nat) (im : Nat → Nat) : Nat → List Nat
  | 0 => List.replicate cs.length 97
  | k + 1 => (putm cs ar im k).set (im (ar + k) - ar) (cs.getD k 0)
theorem putm_len (cs : List Nat) (ar : Nat) (im : Nat → Nat) : ∀ k, (putm cs ar im k).length = cs.length
  | 0 => by simp [putm]
  | k + 1 => by rw [putm, List.length_set, putm_len]
theorem putm_put {cs : List Nat} {ar : Nat} {im inv : Nat → Nat} (b : Bij im inv ar cs.length) : Put cs ar im (putm cs ar im cs.length) := by
  refine ⟨putm_len _ _ _ _, ?_⟩
  have key : ∀ m, m ≤ cs.length → ∀ k, k < m → (putm cs ar im m).getD (im (ar + k) - ar) 0 = cs.getD k 0 := by
    intro m
    induction m with
    | zero => intro _ k hk; omega
    | succ m ih =>
      intro hm k hk
      rw [putm]
      obtain ⟨a1, a2, a3⟩ := b.h1 (ar + m) (by omega) (by omega)
      by_cases e : k = m
      · subst e
        have : im (ar + k) - ar < (putm cs ar im k).length := by rw [putm_len]; omega
        simp [List.getD, this]
      · obtain ⟨b1, b2, b3⟩ := b.h1 (ar + k) (by omega) (by omega)
        have hne : im (ar + m) - ar ≠ im (ar + k) - ar := fun z => e (by
          have : im (ar + m) = im (ar + k) := by omega
          rw [this, b3] at a3
          omega)
        have := ih (by omega) k (by omega)
        rw [List.getD_eq_getElem?_getD, List.getElem?_set_ne hne, ← List.getD_eq_getElem?_getD]
        exact this
  exact key cs.length (Nat.le_refl _)
def ren (w : Wb) (im : Nat → Nat) : Wb := ⟨w.ar, putm w.cs w.ar im w.cs.length, srt (w.ts.map (mv im))⟩
theorem ren_cs {w : Wb} {im inv : Nat → Nat} (b : Bij im inv w.ar w.cs.length) {R : List Nat} (h : Put w.cs w.ar im R) : (ren w im).cs = R := put_uniq b (putm_put b) h
theorem ren_ok {w : Wb} {im inv : Nat → Nat} (b : Bij im inv w.ar w.cs.length) (h : w.Ok) : (ren w im).Ok := by
  refine ⟨fun p hp => ?_, srt_srt _, h.arl⟩
  obtain ⟨q, hq, rfl⟩ := List.mem_map.mp ((srt_perm _).mem_iff.mp hp)
  obtain ⟨h1, h2⟩ := h.tie q hq
  have sp := w.sp
  have a1 := b.lt (show q.one < _ by omega)
  have a2 := b.lt h2
  have a3 : im q.one ≠ im q.other := fun e => by
    have e1 := b.back (show q.one < _ by omega)
    have e2 := b.back h2
    rw [e, e2] at e1
    omega
  have es : (ren w im).spots = w.ar + w.cs.length := by
    show w.ar + (putm _ _ _ _).length = _
    rw [putm_len]
  rw [es]
  show min _ _ < max _ _ ∧ max _ _ < _
  omega
theorem perm_maps {l m : List Pt} {f : Pt → Pt} (h : l.Perm m) : (l.map f).Perm (m.map f) := h.map f
theorem ren_back {w : Wb} {im inv : Nat → Nat} (b : Bij im inv w.ar w.cs.length) (h : w.Ok) : ren (ren w im) inv = w := by
  have hl : (ren w im).cs.length = w.cs.length := putm_len _ _ _ _
  have b2 : Bij inv im (ren w im).ar (ren w im).cs.length := by rw [hl]; exact b.symm
  have e1 : (ren (ren w im) inv).cs = w.cs := by
    refine ren_cs b2 ⟨hl.symm, fun k hk => ?_⟩
    rw [hl] at hk
    have hp := (putm_put b).2
    obtain ⟨c1, c2, c3⟩ := b.h2 (w.ar + k) (by omega) (by omega)
    have := hp (inv (w.ar + k) - w.ar) (by omega)
    rw [show w.ar + (inv (w.ar + k) - w.ar) = inv (w.ar + k) by omega, c3, Nat.add_sub_cancel_left] at this
    exact this.symm
  have e2 : (ren (ren w im) inv).ts = w.ts := by
    show srt ((srt (w.ts.map (mv im))).map (mv inv)) = w.ts
    rw [srt_congr (perm_maps (srt_perm _)), List.map_map]
    have : w.ts.map (mv inv ∘ mv im) = w.ts := by
      conv => rhs; rw [← List.map_id w.ts]
      refine List.map_congr_left fun p hp => ?_
      obtain ⟨h1, h2⟩ := h.tie p hp
      have sp := w.sp
      show mv inv (mv im p) = p
      rw [mv_mv]
      exact mv_id h1 (b.back (by omega)) (b.back h2)
    rw [this, h.ord]
  have e3 : (ren (ren w im) inv).ar = w.ar := rfl
  exact wb_eq e3 e1 e2
theorem gd_app {a b : List Nat} {k : Nat} : (a ++ b).getD k 0 = if k < a.length then a.getD k 0 else b.getD (k - a.length) 0 := by
  rw [List.getD_eq_getElem?_getD, List.getElem?_append]
  split
  · rw [List.getD_eq_getElem?_getD]
  · rw [List.getD_eq_getElem?_getD]
theorem srt_app {a b c d : List Pt} (h1 : a.Perm c) (h2 : b.Perm d) : srt (a ++ b) = srt (c ++ d) := srt_congr (h1.append h2)
/-- two gluings in the other order -/
def imO (S n1 n2 : Nat) : Nat → Nat := fun q => if q < S then q else if q < S + n1 then q + n2 else q - n1
theorem bij_O {S n1 n2 ar hn : Nat} (hS : S = ar + hn) : Bij (imO S n1 n2) (imO S n2 n1) ar (hn + n1 + n2) := by
  unfold imO
  refine ⟨fun q h => ?_, fun q h => ?_, fun q h1 h2 => ?_, fun q h1 h2 => ?_⟩
  · rw [if_pos (by omega)]
  · rw [if_pos (by omega)]
  · try dsimp only
    split
    · omega
    · split
      · rw [if_neg (by omega), if_neg (by omega)]; omega
      · rw [if_neg (by omega), if_pos (by omega)]; omega
  · try dsimp only
    split
    · omega
    · split
      · rw [if_neg (by omega), if_neg (by omega)]; omega
      · rw [if_neg (by omega), if_pos (by omega)]; omega
theorem orders {h a b : Wb} {p q : List Nat} (hh : h.Ok) (ha : a.Ok) (hb : b.Ok) (op : PlOk h p a.ar) (oq : PlOk h q b.ar) :
    ren (glu (glu h p a) q b) (imO h.spots a.cs.length b.cs.length) = glu (glu h q b) p a := by
  have bj := bij_O (S := h.spots) (n1 := a.cs.length) (n2 := b.cs.length) (ar := h.ar) (hn := h.cs.length) rfl
  have hl : (glu (glu h p a) q b).cs.length = h.cs.length + a.cs.length + b.cs.length := by
    show (h.cs ++ a.cs ++ b.cs).length = _
    simp
    omega
  have bj2 : Bij (imO h.spots a.cs.length b.cs.length) (imO h.spots b.cs.length a.cs.length) (glu (glu h p a) q b).ar (glu (glu h p a) q b).cs.length := by rw [hl]; exact bj
  refine wb_eq rfl ?_ ?_
  · refine ren_cs bj2 ⟨?_, fun k hk => ?_⟩
    · show (h.cs ++ b.cs ++ a.cs).length = (h.cs ++ a.cs ++ b.cs).length
      simp
      omega
    · rw [hl] at hk
      show (h.cs ++ b.cs ++ a.cs).getD (imO h.spots a.cs.length b.cs.length (h.ar + k) - h.ar) 0 = (h.cs ++ a.cs ++ b.cs).getD k 0
      rw [gd_app, gd_app, gd_app, gd_app, List.length_append, List.length_append]
      have sp := h.sp
      by_cases c1 : k < h.cs.length
      · have ei : imO h.spots a.cs.length b.cs.length (h.ar + k) = h.ar + k := if_pos (by omega)
        rw [ei, Nat.add_sub_cancel_left, if_pos (by omega), if_pos c1, if_pos (by omega), if_pos c1]
      · by_cases c2 : k < h.cs.length + a.cs.length
        · have ei : imO h.spots a.cs.length b.cs.length (h.ar + k) = h.ar + k + b.cs.length := by
            unfold imO
            rw [if_neg (by omega), if_pos (by omega)]
          rw [ei, if_neg (by omega), if_pos c2, if_neg c1]
          congr 1
          omega
        · have ei : imO h.spots a.cs.length b.cs.length (h.ar + k) = h.ar + k - a.cs.length := by
            unfold imO
            rw [if_neg (by omega), if_neg (by omega)]
          rw [ei, if_pos (by omega), if_neg (by omega), if_neg c2]
          congr 1
          omega
  · show srt ((srt (srt (h.ts ++ a.ts.map (mv (imG p a.ar h.spots))) ++ b.ts.map (mv (imG q b.ar (glu h p a).spots)))).map (mv (imO h.spots a.cs.length b.cs.length))) = srt (srt (h.ts ++ b.ts.map (mv (imG q b.ar h.spots))) ++ a.ts.map (mv (imG p a.ar (glu h q b).spots)))
    rw [srt_congr (perm_maps (srt_perm _)), List.map_append, srt_app (perm_maps (srt_perm _)) (.refl _), srt_app (srt_perm (h.ts ++ _)) (.refl _), List.map_append, List.map_map, List.map_map]
    have e1 : h.ts.map (mv (imO h.spots a.cs.length b.cs.length)) = h.ts := by
      conv => rhs; rw [← List.map_id h.ts]
      refine List.map_congr_left fun t ht => ?_
      obtain ⟨h1, h2⟩ := hh.tie t ht
      exact mv_id h1 (if_pos (by omega)) (if_pos h2)
    have e2 : a.ts.map (mv (imO h.spots a.cs.length b.cs.length) ∘ mv (imG p a.ar h.spots)) = a.ts.map (mv (imG p a.ar (glu h q b).spots)) := by
      refine List.map_congr_left fun t ht => ?_
      obtain ⟨h1, h2⟩ := ha.tie t ht
      show mv _ (mv _ t) = _
      rw [mv_mv]
      have key : ∀ x, x < a.spots → imO h.spots a.cs.length b.cs.length (imG p a.ar h.spots x) = imG p a.ar (glu h q b).spots x := fun x hx => by
        have hx' : x < a.ar + a.cs.length := hx
        rw [glu_spots]
        unfold imG
        split
        · have := op.at ‹_›
          unfold imO
          rw [if_pos this]
        · unfold imO
          rw [if_neg (by omega), if_pos (by omega)]
          omega
      exact mv_congr (key _ (by omega)) (key _ h2)
    have e3 : b.ts.map (mv (imO h.spots a.cs.length b.cs.length) ∘ mv (imG q b.ar (glu h p a).spots)) = b.ts.map (mv (imG q b.ar h.spots)) := by
      refine List.map_congr_left fun t ht => ?_
      obtain ⟨h1, h2⟩ := hb.tie t ht
      show mv _ (mv _ t) = _
      rw [mv_mv]
      have key : ∀ x, x < b.spots → imO h.spots a.cs.length b.cs.length (imG q b.ar (glu h p a).spots x) = imG q b.ar h.spots x := fun x hx => by
        have hx' : x < b.ar + b.cs.length := hx
        rw [glu_spots]
        unfold imG
        split
        · have := oq.at ‹_›
          unfold imO
          rw [if_pos this]
        · unfold imO
          rw [if_neg (by omega), if_neg (by omega)]
          omega
      exact mv_congr (key _ (by omega)) (key _ h2)
    rw [e1, e2, e3]
    refine srt_congr ?_
    rw [List.append_assoc, List.append_assoc]
    exact List.Perm.append_left _ List.perm_append_comm
/-- a guest within a guest -/
def outer (there within : List Nat) (oar S : Nat) : List Nat := within.map fun q => if q < oar then there.getD q 0 else S + q - oar
theorem nested {h o t : Wb} {there within : List Nat} (hh : h.Ok) (ho : o.Ok) (ht : t.Ok) (o1 : PlOk h there o.ar) (o2 : PlOk o within t.ar) :
    glu h there (glu o within t) = glu (glu h there o) (outer there within o.ar h.spots) t := by
  refine wb_eq rfl ?_ ?_
  · show h.cs ++ (o.cs ++ t.cs) = h.cs ++ o.cs ++ t.cs
    rw [List.append_assoc]
  · show srt (h.ts ++ (srt (o.ts ++ t.ts.map (mv (imG within t.ar o.spots)))).map (mv (imG there o.ar h.spots))) = srt (srt (h.ts ++ o.ts.map (mv (imG there o.ar h.spots))) ++ t.ts.map (mv (imG (outer there within o.ar h.spots) t.ar (glu h there o).spots)))
    rw [srt_app (.refl _) (perm_maps (srt_perm _)), srt_app (srt_perm _) (.refl _), List.map_append, List.map_map, List.append_assoc]
    have e2 : t.ts.map (mv (imG there o.ar h.spots) ∘ mv (imG within t.ar o.spots)) = t.ts.map (mv (imG (outer there within o.ar h.spots) t.ar (glu h there o).spots)) := by
      refine List.map_congr_left fun x hx => ?_
      show mv _ (mv _ x) = _
      rw [mv_mv]
      have key : ∀ x, imG there o.ar h.spots (imG within t.ar o.spots x) = imG (outer there within o.ar h.spots) t.ar (glu h there o).spots x := fun x => by
        rw [glu_spots]
        by_cases c : x < t.ar
        · have hl := o2.len
          have e1 : imG within t.ar o.spots x = within.getD x 0 := if_pos c
          have e2 : imG (outer there within o.ar h.spots) t.ar (h.spots + o.cs.length) x = (outer there within o.ar h.spots).getD x 0 := if_pos c
          rw [e1, e2]
          have e3 : within.getD x 0 = within[x] := by simp [List.getD, hl, c]
          have e4 : (outer there within o.ar h.spots).getD x 0 = if within[x] < o.ar then there.getD within[x] 0 else h.spots + within[x] - o.ar := by
            simp [outer, List.getD, hl, c]
          rw [e3, e4]
          unfold imG
          split
          · rfl
          · omega
        · have spo := o.sp
          have e1 : imG within t.ar o.spots x = o.spots + (x - t.ar) := if_neg c
          have e2 : imG (outer there within o.ar h.spots) t.ar (h.spots + o.cs.length) x = h.spots + o.cs.length + (x - t.ar) := if_neg c
          rw [e1, e2]
          unfold imG
          rw [if_neg (by omega)]
          omega
      exact mv_congr (key _) (key _)
    rw [e2]
theorem outer_ok {h o t : Wb} {there within : List Nat} (o1 : PlOk h there o.ar) (o2 : PlOk o within t.ar) : PlOk (glu h there o) (outer there within o.ar h.spots) t.ar := by
  have inj : ∀ x y, x < o.spots → y < o.spots → x ≠ y → (if x < o.ar then there.getD x 0 else h.spots + x - o.ar) ≠ (if y < o.ar then there.getD y 0 else h.spots + y - o.ar) := fun x y hx hy hxy => by
    split
    · have := o1.at ‹_›
      split
      · exact o1.ne ‹_› ‹_› hxy
      · omega
    · split
      · have := o1.at ‹_›
        omega
      · omega
  refine ⟨by simp [outer, o2.len], ?_, fun x hx => ?_⟩
  · unfold outer
    rw [List.Nodup, List.pairwise_map]
    refine List.Pairwise.imp_of_mem ?_ o2.nd
    intro x y hx hy hxy
    exact inj x y (o2.lt x hx) (o2.lt y hy) hxy
  · obtain ⟨q, hq, rfl⟩ := List.mem_map.mp hx
    have := o2.lt q hq
    rw [glu_spots]
    split
    · have := o1.at ‹_›
      omega
    · have : q < o.ar + o.cs.length := this
      omega
/-- a turned host -/
def imL (im : Nat → Nat) (S : Nat) : Nat → Nat := fun q => if q < S then im q else q
theorem bij_L {im inv : Nat → Nat} {ar n m : Nat} (b : Bij im inv ar n) : Bij (imL im (ar + n)) (imL inv (ar + n)) ar (n + m) := by
  unfold imL
  refine ⟨fun q h => ?_, fun q h => ?_, fun q h1 h2 => ?_, fun q h1 h2 => ?_⟩
  · rw [if_pos (by omega)]
    exact b.j1 q h
  · rw [if_pos (by omega)]
    exact b.j2 q h
  · try dsimp only
    by_cases c : q < ar + n
    · obtain ⟨a1, a2, a3⟩ := b.h1 q h1 c
      rw [if_pos c, if_pos a2]
      exact ⟨a1, by omega, a3⟩
    · rw [if_neg c, if_neg c]
      exact ⟨h1, h2, rfl⟩
  · try dsimp only
    by_cases c : q < ar + n
    · obtain ⟨a1, a2, a3⟩ := b.h2 q h1 c
      rw [if_pos c, if_pos a2]
      exact ⟨a1, by omega, a3⟩
    · rw [if_neg c, if_neg c]
      exact ⟨h1, h2, rfl⟩
theorem turned {h g : Wb} {pl : List Nat} {im inv : Nat → Nat} (b : Bij im inv h.ar h.cs.length) (hh : h.Ok) (hg : g.Ok) (o : PlOk h pl g.ar) :
    glu (ren h im) (pl.map im) g = ren (glu h pl g) (imL im h.spots) := by
  have bl := bij_L (m := g.cs.length) b
  have hl : (glu h pl g).cs.length = h.cs.length + g.cs.length := by
    show (h.cs ++ g.cs).length = _
    simp
  have bl2 : Bij (imL im h.spots) (imL inv h.spots) (glu h pl g).ar (glu h pl g).cs.length := by rw [hl]; exact bl
  have hrl : (ren h im).cs.length = h.cs.length := putm_len _ _ _ _
  have hrs : (ren h im).spots = h.spots := by
    show h.ar + _ = h.ar + _
    rw [hrl]
  refine wb_eq rfl (ren_cs bl2 ⟨?_, fun k hk => ?_⟩).symm ?_
  · show ((ren h im).cs ++ g.cs).length = _
    rw [List.length_append, hrl, hl]
  · rw [hl] at hk
    show ((ren h im).cs ++ g.cs).getD (imL im h.spots (h.ar + k) - h.ar) 0 = (h.cs ++ g.cs).getD k 0
    rw [gd_app, gd_app, hrl]
    unfold imL
    by_cases c : k < h.cs.length
    · obtain ⟨a1, a2, a3⟩ := b.h1 (h.ar + k) (by omega) (by omega)
      rw [if_pos (show h.ar + k < h.spots by unfold Wb.spots; omega), if_pos (by omega), if_pos c]
      exact (putm_put b).2 k c
    · rw [if_neg (show ¬ h.ar + k < h.spots by unfold Wb.spots; omega), if_neg (by omega), if_neg c]
      congr 1
      omega
  · show srt (srt (h.ts.map (mv im)) ++ g.ts.map (mv (imG (pl.map im) g.ar (ren h im).spots))) = srt ((srt (h.ts ++ g.ts.map (mv (imG pl g.ar h.spots)))).map (mv (imL im h.spots)))
    rw [srt_app (srt_perm _) (.refl _), srt_congr (perm_maps (srt_perm _)), List.map_append, List.map_map, hrs]
    have e1 : h.ts.map (mv (imL im h.spots)) = h.ts.map (mv im) := by
      refine List.map_congr_left fun t ht => ?_
      obtain ⟨h1, h2⟩ := hh.tie t ht
      exact mv_congr (if_pos (by omega)) (if_pos h2)
    have e2 : g.ts.map (mv (imL im h.spots) ∘ mv (imG pl g.ar h.spots)) = g.ts.map (mv (imG (pl.map im) g.ar h.spots)) := by
      refine List.map_congr_left fun t ht => ?_
      show mv _ (mv _ t) = _
      rw [mv_mv]
      have key : ∀ x, imL im h.spots (imG pl g.ar h.spots x) = imG (pl.map im) g.ar h.spots x := fun x => by
        have hpl := o.len
        by_cases c : x < g.ar
        · have := o.at c
          have e1 : imG pl g.ar h.spots x = pl.getD x 0 := if_pos c
          have e2 : imG (pl.map im) g.ar h.spots x = (pl.map im).getD x 0 := if_pos c
          rw [e1, e2]
          unfold imL
          rw [if_pos this]
          simp [List.getD, hpl, c]
        · have e1 : imG pl g.ar h.spots x = h.spots + (x - g.ar) := if_neg c
          have e2 : imG (pl.map im) g.ar h.spots x = h.spots + (x - g.ar) := if_neg c
          rw [e1, e2]
          unfold imL
          rw [if_neg (by omega)]
      exact mv_congr (key _) (key _)
    rw [e1, e2]
theorem turned_pl {h g : Wb} {pl : List Nat} {im inv : Nat → Nat} (b : Bij im inv h.ar h.cs.length) (o : PlOk h pl g.ar) : PlOk (ren h im) (pl.map im) g.ar := by
  have hrs : (ren h im).spots = h.spots := by
    show h.ar + (putm _ _ _ _).length = h.ar + _
    rw [putm_len]
  refine ⟨by simp [o.len], ?_, fun x hx => ?_⟩
  · rw [List.Nodup, List.pairwise_map]
    refine List.Pairwise.imp_of_mem ?_ o.nd
    intro x y hx hy hxy e
    have e1 := b.back (o.lt x hx)
    have e2 := b.back (o.lt y hy)
    rw [e, e2] at e1
    exact hxy e1.symm
  · obtain ⟨q, hq, rfl⟩ := List.mem_map.mp hx
    rw [hrs]
    exact b.lt (o.lt q hq)
/-! ### the walk: gluing and renumbering -/
def singD (c : Nat) : D := .str ⟨#[c]⟩
theorem letters_st (cs : List Nat) : lettersD (stS cs) = cs.map singD := rfl
theorem st_length (cs : List Nat) : (stS cs).length = cs.length := by
  show cs.toArray.size = _
  simp
theorem st_append (a b : List Nat) : stS a ++ stS b = stS (a ++ b) := by
  show (⟨a.toArray ++ b.toArray⟩ : Str) = ⟨(a ++ b).toArray⟩
  simp
theorem at_st {cs : List Nat} {k : Nat} (h : k < cs.length) : atI (stS cs).cps.toList (k : Int) = some (cs.getD k 0) := by
  unfold atI
  have e : (stS cs).cps.toList = cs := rfl
  rw [e, ix_nat h]
  simp [List.getD, h]
theorem strs_sing (l : List Nat) : strsOf (l.map singD) = some (l.map fun c => (⟨#[c]⟩ : Str)) := by
  induction l with
  | nil => rfl
  | cons x xs ih =>
    rw [List.map_cons, List.map_cons]
    show (strsOf _).map _ = _
    rw [ih]
    rfl
theorem glued_sing (cs : List Nat) : Txt.join "" (cs.map fun c => (⟨#[c]⟩ : Str)) = stS cs := by
  have key : ∀ cs : List Nat, Str.join "" (cs.map fun c => (⟨#[c]⟩ : Str)) = stS cs := by
    intro cs
    induction cs with
    | nil => rfl
    | cons x cs ih =>
      cases cs with
      | nil => rfl
      | cons y cs =>
        show (⟨#[x]⟩ : Str) ++ "" ++ Str.join "" ((y :: cs).map fun c => (⟨#[c]⟩ : Str)) = _
        rw [ih]
        show (⟨#[x] ++ #[] ++ (y :: cs).toArray⟩ : Str) = ⟨(x :: y :: cs).toArray⟩
        simp
  rw [← key]
  exact PySem.StrLaws.glued_eq_join _ _
theorem sum_ones (l : List Nat) : ((l.map fun c => (⟨#[c]⟩ : Str)).map (·.length)).sum = l.length := by
  induction l with
  | nil => rfl
  | cons x l ih =>
    rw [List.map_cons, List.map_cons, List.sum_cons, ih, List.length_cons]
    show 1 + _ = _
    omega
theorem toPs_pts (f : Nat → Option PyData) (l : List Pt) : toPsW f (l.map Pt.d) = some (l.map Pt.p) := by
  induction l with
  | nil => rfl
  | cons x l ih => simp [toPsW, toPW, ih, Pt.p]
theorem sort_pts {S : Sto} {l : List Pt} {Q : List D → Sto → Prop} (h : Q ((srt l).map Pt.d) S) : W (sortD S (l.map Pt.d)) Q := by
  have e : toPs S (l.map Pt.d) = some (l.map Pt.p) := toPs_pts _ _
  unfold sortD
  rw [e]
  have es : (l.map Pt.d).mergeSort (PySem.W.dataLe false fun d => (toP S d).getD .none) = (srt l).map Pt.d := by
    refine (PySem.W.sort_maps Pt.d fun a _ b _ => ?_).symm
    have ep : ∀ p : Pt, (toP S p.d).getD .none = p.p := fun p => by
      have : toP S p.d = some p.p := by simp [toP, toPW, toPsW, Pt.p]
      rw [this]
      rfl
    rw [PySem.W.dataLe_eq, PySem.W.dataLe_eq]
    simp only [ep]
  rw [es]
  refine w_ask ⟨fun a ha b hb => ?_, .inl fun a ha => ?_, fun a ha => ?_⟩ (w_ok h)
  · obtain ⟨x, _, rfl⟩ := List.mem_map.mp ha
    obtain ⟨y, _, rfl⟩ := List.mem_map.mp hb
    simp [PySem.W.alike, PySem.W.alikeAll, Pt.p]
  · obtain ⟨x, _, rfl⟩ := List.mem_map.mp ha
    exact ⟨_, _, rfl⟩
  · obtain ⟨x, _, rfl⟩ := List.mem_map.mp ha
    simp [PyData.depth, PyData.depthAll, Pt.p]
theorem below_pts (l : List Pt) {n : Nat} : below n (.tup (l.map Pt.d)) := by
  show belows n _
  refine belows_iff.mpr fun x hx => ?_
  obtain ⟨p, _, rfl⟩ := List.mem_map.mp hx
  simp [below, belows]
theorem below_wb (w : Wb) {n : Nat} : below n w.d := ⟨trivial, trivial, below_pts _, trivial⟩
theorem rgD_0 (j : Nat) : rgD 0 (j : Int) = (List.range' 0 j).map natD := by
  rw [rgD0, ← List.range_eq_range']
theorem rg'_cons {c m : Nat} : List.range' c (m + 1) = c :: List.range' (c + 1) m := rfl
/-- a value that is indexed: numbers of spots -/
def IV (S : Sto) (iv : D) (im : Nat → Nat) (N : Nat) : Prop := (∃ l : List D, iv = .tup l ∧ ∀ q, q < N → l[q]? = some (natD (im q))) ∨ ∃ a l, iv = .ref a ∧ S[a]? = some (.lst l) ∧ ∀ q, q < N → l[q]? = some (natD (im q))
theorem at_some {l : List D} {j : Nat} {d : D} (h : l[j]? = some d) : atI l (j : Int) = some d := by
  have hj := (List.getElem?_eq_some_iff.mp h).1
  rw [at_nat _ _ hj]
  rw [List.getElem?_eq_getElem hj] at h
  exact h
theorem iv_idx {S g : Sto} {iv : D} {im : Nat → Nat} {N q : Nat} {Q : D → Sto → Prop} (v : IV S iv im N) (hq : q < N) (h : Q (natD (im q)) (S ++ g)) : W (idxD iv (.int (q : Int)) (S ++ g)) Q := by
  rcases v with ⟨l, rfl, e⟩ | ⟨a, l, rfl, ea, e⟩
  · exact v_idxT (at_some (e q hq)) h
  · exact v_idx (get_pre ea) (at_some (e q hq)) h
section
variable {k : Nat} {S : Sto} {Q : D → Sto → Prop} {w h g : Wb} {im inv : Nat → Nat} {pl : List Nat}
theorem spots_w (hz : w.cs.length ≤ 5000) (h : Q (natD w.spots) S) : W (orc T (k + 1) 0 [w.d] S) Q := by
  refine orc_w (ρ := [some w.d]) rfl rfl rfl ?_
  show W (evSs _ b_spots_of _ _) _
  simp only [b_spots_of]
  have q1 : (stS w.cs).length ≤ sizeLine := by rw [st_length]; exact le_size (by omega)
  mul_fits
  rw [st_length]
  mul_fits
  exact h
theorem many_w (hz : w.cs.length ≤ 5000) (h : Q (natD w.spots) S) : W (orc T (k + 1) 14 [w.d] S) Q := by
  refine orc_w (ρ := [some w.d]) rfl rfl rfl ?_
  show W (evSs _ b__law_many _ _) _
  simp only [b__law_many]
  have q1 : (stS w.cs).length ≤ sizeLine := by rw [st_length]; exact le_size (by omega)
  mul_fits
  rw [st_length]
  mul_fits
  exact h
theorem moved_w {ts : List Pt} {iv : D} {N : Nat} (v : IV S iv im N) (ht : ∀ p ∈ ts, p.one < N ∧ p.other < N) (hz : ts.length ≤ 5000) (h : Q (.ref S.length) (S ++ [.lst ((ts.map (mv im)).map Pt.d)])) : W (orc T (k + 1) 2 [.tup (ts.map Pt.d), iv] S) Q := by
  refine orc_w (ρ := [some (.tup (ts.map Pt.d)), some iv, none, none, none, none, none, none]) rfl rfl rfl ?_
  show W (evSs _ b_moved_ties _ _) _
  simp only [b_moved_ties]
  mul_fits
  refine loopS_w (fun ds ρ S' => ∃ (rest acc : List Pt) (o3 o4 o5 o6 o7 : Option D), ds = rest.map Pt.d ∧ S' = S ++ [.lst (acc.map Pt.d)] ∧ ρ = [some (.tup (ts.map Pt.d)), some iv, some (.ref S.length), o3, o4, o5, o6, o7] ∧ (∀ p ∈ rest, p.one < N ∧ p.other < N) ∧ acc ++ rest.map (mv im) = ts.map (mv im)) ?_ ?_ _ _ _ ⟨ts, [], _, _, _, _, _, rfl, rfl, rfl, ht, rfl⟩
  · rintro d ds ρ S' ⟨rest, acc, o3, o4, o5, o6, o7, hds, rfl, rfl, hp, hr⟩
    refine ⟨trivial, ?_⟩
    cases rest with
    | nil => exact absurd hds (by simp)
    | cons p rest =>
    rw [List.map_cons, List.cons.injEq] at hds
    obtain ⟨rfl, rfl⟩ := hds
    obtain ⟨p1, p2⟩ := hp p (by simp)
    have hal : acc.length < sizeLine := by
      have := congrArg List.length hr
      simp at this
      exact le_size (by omega)
    simp only [b_moved_ties_1]
    mul_fits
    refine iv_idx v p1 ?_
    mul_fits
    refine iv_idx v p2 ?_
    mul_fits
    have k1 := get_end S (.lst (acc.map Pt.d))
    have k2 : (acc.map Pt.d).length < sizeLine := by rw [List.length_map]; exact hal
    have fin : ∀ (a b : Nat) (o3 o4 o5 : Option D), (⟨a, b, p.strand⟩ : Pt) = mv im p → ∃ ρ', (Fl.nx [some (.tup (ts.map Pt.d)), some iv, some (.ref S.length), o3, o4, o5, some (natD a), some (natD b)] = .nx ρ' ∨ Fl.nx [some (.tup (ts.map Pt.d)), some iv, some (.ref S.length), o3, o4, o5, some (natD a), some (natD b)] = .ct ρ') ∧ ∃ (rest' acc' : List Pt) (o3 o4 o5 o6 o7 : Option D), rest.map Pt.d = rest'.map Pt.d ∧ S ++ [Ob.lst (acc.map Pt.d ++ [(⟨a, b, p.strand⟩ : Pt).d])] = S ++ [.lst (acc'.map Pt.d)] ∧ ρ' = [some (.tup (ts.map Pt.d)), some iv, some (.ref S.length), o3, o4, o5, o6, o7] ∧ (∀ p ∈ rest', p.one < N ∧ p.other < N) ∧ acc' ++ rest'.map (mv im) = ts.map (mv im) := fun a b o3 o4 o5 e =>
      ⟨_, .inl rfl, rest, acc ++ [mv im p], _, _, _, _, _, rfl, by rw [e]; simp, rfl, fun q hq => hp q (by simp [hq]), by rw [← hr]; simp⟩
    refine w_ifd (fun c => ?_) fun c => ?_
    · mul_fits
      simp only [b_moved_ties_2]
      mul_fits
      rw [set_end]
      refine fin _ _ _ _ _ ?_
      unfold mv
      rw [Nat.min_eq_right (by omega), Nat.max_eq_left (by omega)]
    · mul_fits
      simp only [b_moved_ties_2]
      mul_fits
      rw [set_end]
      refine fin _ _ _ _ _ ?_
      unfold mv
      rw [Nat.min_eq_left (by omega), Nat.max_eq_right (by omega)]
  · rintro ρ S' ⟨rest, acc, o3, o4, o5, o6, o7, hds, rfl, rfl, hp, hr⟩
    refine ⟨trivial, ?_⟩
    cases rest with
    | cons k0 ks => exact absurd hds (by simp)
    | nil =>
    mul_fits
    simp only [b_moved_ties_3]
    mul_fits
    rw [gc_out (by simp [below])]
    rw [List.map_nil, List.append_nil] at hr
    subst hr
    exact w_ok h
end
/-! ### texts that can be compared -/
structure Wb.Sk (w : Wb) : Prop where
  chr : ∀ c ∈ w.cs, c < 1114112
  sok : ∀ p ∈ w.ts, PyData.strOk p.strand = true
theorem glu_sk {h g : Wb} {pl : List Nat} (a : h.Sk) (b : g.Sk) : (glu h pl g).Sk := by
  refine ⟨fun c hc => ?_, fun p hp => ?_⟩
  · rcases List.mem_append.mp hc with hc | hc
    · exact a.chr c hc
    · exact b.chr c hc
  · rcases List.mem_append.mp ((srt_perm _).mem_iff.mp hp) with hp | hp
    · exact a.sok p hp
    · obtain ⟨q, hq, rfl⟩ := List.mem_map.mp hp
      exact b.sok q hq
theorem ren_sk {w : Wb} {im inv : Nat → Nat} (b : Bij im inv w.ar w.cs.length) (a : w.Sk) : (ren w im).Sk := by
  refine ⟨fun c hc => ?_, fun p hp => ?_⟩
  · obtain ⟨j, hj, rfl⟩ := List.mem_iff_getElem.mp hc
    have hj' : j < w.cs.length := by
      rw [← putm_len w.cs w.ar im w.cs.length]
      exact hj
    obtain ⟨c1, c2, c3⟩ := b.h2 (w.ar + j) (by omega) (by omega)
    have e := (putm_put b).2 (inv (w.ar + j) - w.ar) (by omega)
    rw [show w.ar + (inv (w.ar + j) - w.ar) = inv (w.ar + j) by omega, c3, Nat.add_sub_cancel_left] at e
    have hk : inv (w.ar + j) - w.ar < w.cs.length := by omega
    have e1 : (putm w.cs w.ar im w.cs.length).getD j 0 = (ren w im).cs[j] := by
      show _ = (putm w.cs w.ar im w.cs.length)[j]
      have : j < (putm w.cs w.ar im w.cs.length).length := by rw [putm_len]; exact hj'
      simp [List.getD, this]
      rfl
    rw [e1] at e
    rw [e]
    have e2 : w.cs.getD (inv (w.ar + j) - w.ar) 0 = w.cs[inv (w.ar + j) - w.ar] := by simp [List.getD, hk]
    rw [e2]
    exact a.chr _ (List.getElem_mem _)
  · obtain ⟨q, hq, rfl⟩ := List.mem_map.mp ((srt_perm _).mem_iff.mp hp)
    exact a.sok q hq
theorem lay_pts : ∀ (l : List Pt), (∀ p ∈ l, PyData.strOk p.strand = true) → PyData.canLayAll0 (l.map Pt.p) = true ∧ PyData.depthAll (l.map Pt.p) ≤ 1
  | [], _ => by simp [PyData.canLayAll0, PyData.depthAll]
  | p :: l, h => by
    have ih := lay_pts l fun q hq => h q (by simp [hq])
    have hp := h p (by simp)
    simp [PyData.canLayAll0, PyData.depthAll, PyData.canLay0, PyData.depth, ih.1, ih.2, Pt.p, hp]
theorem stok {cs : List Nat} (h : ∀ c ∈ cs, c < 1114112) : PyData.strOk (stS cs) = true := by
  unfold PyData.strOk stS
  simp
  intro i hi
  exact h _ hi
theorem eq_wb {S : Sto} {w : Wb} (s : w.Sk) : dEq S w.d w.d = some true := by
  have e : toP S w.d = some (.tuple [.int (w.ar : Nat), .str (stS w.cs), .tuple (w.ts.map Pt.p)]) := by
    have := toPs_pts (refP S 8) w.ts
    simp [toP, toPW, toPsW, this]
  have sc : scalD w.d w.d = false := rfl
  unfold dEq
  rw [sc, e]
  obtain ⟨h1, h2⟩ := lay_pts w.ts s.sok
  have hs : SeqAt.shaped (.tuple [.int (w.ar : Nat), .str (stS w.cs), .tuple (w.ts.map Pt.p)]) = true := by
    simp only [SeqAt.shaped, PyData.canLay0, PyData.canLayAll0, PyData.depth, PyData.depthAll, h1, stok s.chr, Bool.and_self, Bool.true_and]
    exact decide_eq_true (by omega)
  have hr := SeqAt.eqv_refl _ (SeqAt.canLay_of_shaped hs)
  simp only [hs, hr, Bool.and_self, if_true, Bool.false_eq_true, if_false]
section
variable {k : Nat} {S : Sto} {Q : D → Sto → Prop} {w h g : Wb} {im inv : Nat → Nat} {pl : List Nat}
def imD (im : Nat → Nat) (N : Nat) : D := .tup ((List.range N).map fun q => natD (im q))
theorem iv_im {im : Nat → Nat} {N : Nat} : IV S (imD im N) im N := .inl ⟨_, rfl, fun q hq => by simp [hq]⟩
theorem renumber_w (b : Bij im inv w.ar w.cs.length) (ok : w.Ok) (hz : w.cs.length ≤ 5000) (hz2 : w.ts.length ≤ 5000) (h : Q (ren w im).d S) : W (orc T (k + 2) 3 [w.d, imD im w.spots] S) Q := by
  refine orc_w (ρ := [some w.d, some (imD im w.spots), none, none, none]) rfl rfl rfl ?_
  show W (evSs _ b_renumber _ _) _
  simp only [b_renumber]
  have q1 : (stS w.cs).length ≤ sizeLine := by rw [st_length]; exact le_size (by omega)
  have sp := w.sp
  mul_fits
  refine ⟨by show (lettersD (stS w.cs)).length ≤ sizeLine; rw [letters_st, List.length_map]; exact le_size (by omega), ?_⟩
  refine loopQ_w (fun ds r S' => S' = S ∧ r ++ List.replicate ds.length (singD 97) = List.replicate w.cs.length (singD 97)) ?_ ?_ _ _ ⟨rfl, by rw [letters_st]; simp⟩
  · rintro d ds r S' ⟨rfl, hr⟩
    refine ⟨trivial, ?_⟩
    mul_fits
    refine ⟨rfl, ?_⟩
    rw [← hr]
    simp [List.replicate_succ]
    rfl
  · rintro r S' ⟨rfl, hr⟩
    refine ⟨trivial, ?_⟩
    simp only [List.length_nil, List.replicate_zero, List.append_nil] at hr
    subst hr
    mul_fits
    rw [st_length]
    mul_fits
    rw [rgD_0]
    have e0 : List.replicate w.cs.length (singD 97) = (putm w.cs w.ar im 0).map singD := by simp [putm]
    rw [e0]
    refine loopS_w (fun ds ρ S2 => ∃ (c m : Nat) (o3 : Option D), c + m = w.cs.length ∧ ds = (List.range' c m).map natD ∧ S2 = S' ++ [.lst ((putm w.cs w.ar im c).map singD)] ∧ ρ = [some w.d, some (imD im w.spots), some (.ref S'.length), o3, none]) ?_ ?_ _ _ _ ⟨0, w.cs.length, _, by omega, rfl, rfl, rfl⟩
    · rintro d ds ρ S2 ⟨c, m, o3, hcm, hds, rfl, rfl⟩
      refine ⟨trivial, ?_⟩
      cases m with
      | zero => exact absurd hds (by simp)
      | succ m =>
      rw [rg'_cons, List.map_cons, List.cons.injEq] at hds
      obtain ⟨rfl, rfl⟩ := hds
      obtain ⟨a1, a2, a3⟩ := b.h1 (w.ar + c) (by omega) (by omega)
      simp only [b_renumber_1]
      have ac := at_st (cs := w.cs) (k := c) (by omega)
      have ai : atI ((List.range w.spots).map fun q => natD (im q)) ((w.ar : Int) + (c : Int)) = some (natD (im (w.ar + c))) := by
        rw [← Int.natCast_add]
        exact at_some (by rw [List.getElem?_map, List.getElem?_range (by omega)]; rfl)
      have k1 := get_end S' (.lst ((putm w.cs w.ar im c).map singD))
      have ei : ((im (w.ar + c) : Nat) : Int) - (w.ar : Int) = ((im (w.ar + c) - w.ar : Nat) : Int) := by omega
      have ix : ixN ((putm w.cs w.ar im c).map singD).length (((im (w.ar + c) : Nat) : Int) - (w.ar : Int)) = some (im (w.ar + c) - w.ar) := by
        rw [ei]
        exact ix_nat (by rw [List.length_map, putm_len]; omega)
      unfold imD
      mul_fits
      rw [set_end]
      refine ⟨_, .inl rfl, c + 1, m, _, by omega, rfl, ?_, rfl⟩
      rw [putm, List.map_set]
      rfl
    · rintro ρ S2 ⟨c, m, o3, hcm, hds, rfl, rfl⟩
      refine ⟨trivial, ?_⟩
      cases m with
      | succ m => exact absurd hds (by simp [rg'_cons])
      | zero =>
      have hc : c = w.cs.length := by omega
      subst hc
      mul_fits
      simp only [b_renumber_2]
      have k1 := get_end S' (.lst ((putm w.cs w.ar im w.cs.length).map singD))
      have sq : sqOf (S' ++ [.lst ((putm w.cs w.ar im w.cs.length).map singD)]) (.val (.ref S'.length)) = some ((putm w.cs w.ar im w.cs.length).map singD) := by simp only [sqOf, lsOf, k1]
      mul_fits
      refine w_may sq ?_
      refine w_may (strs_sing _) ?_
      refine w_ask ?_ ?_
      · rw [sum_ones, putm_len]
        have : Str.length "" = 0 := by decide
        rw [this]
        omega
      rw [glued_sing]
      mul_fits
      refine moved_w (N := w.spots) iv_im (fun p hp => by have := ok.tie p hp; omega) hz2 ?_
      have ls : lsOf (S' ++ [Ob.lst ((putm w.cs w.ar im w.cs.length).map singD)] ++ [Ob.lst ((w.ts.map (mv im)).map Pt.d)]) (.val (.ref (S' ++ [Ob.lst ((putm w.cs w.ar im w.cs.length).map singD)]).length)) = some ((w.ts.map (mv im)).map Pt.d) := by simp only [lsOf, get_end]
      mul_fits
      refine w_may ls ?_
      refine sort_pts ?_
      mul_fits
      rw [List.append_assoc]
      show W (gc S' (ren w im).d _) Q
      rw [gc_app (below_wb (ren w im))]
      exact w_ok h
theorem glue_w (hh : h.Ok) (hg : g.Ok) (o : PlOk h pl g.ar) (hz : h.cs.length + g.cs.length ≤ 5000) (hz2 : h.ts.length + g.ts.length ≤ 5000) (hq : Q (glu h pl g).d S) : W (orc T (k + 2) 4 [h.d, .tup (pl.map natD), g.d] S) Q := by
  refine orc_w (ρ := [some h.d, some (.tup (pl.map natD)), some g.d, none, none, none, none]) rfl rfl rfl ?_
  show W (evSs _ b_glue _ _) _
  simp only [b_glue]
  have q2 : (stS g.cs).length ≤ sizeLine := by rw [st_length]; exact le_size (by omega)
  have q3 : (stS h.cs).length + (stS g.cs).length ≤ sizeLine := by rw [st_length, st_length]; exact le_size (by omega)
  have hpl := o.len
  have harl := hg.arl
  mul_fits
  refine spots_w (by omega) ?_
  mul_fits
  rw [st_length]
  mul_fits
  refine ⟨by show (rgD 0 _).length ≤ sizeLine; rw [rgD0]; simp; exact le_size (by omega), ?_⟩
  refine loopQ_w (fun ds r S' => S' = S ∧ ∃ c m, c + m = g.cs.length ∧ ds = (List.range' c m).map natD ∧ r = (List.range c).map fun q => natD (h.spots + q)) ?_ ?_ _ _ ⟨rfl, 0, g.cs.length, by omega, rgD_0 _, rfl⟩
  · rintro d ds r S' ⟨rfl, c, m, hcm, hds, rfl⟩
    refine ⟨trivial, ?_⟩
    cases m with
    | zero => exact absurd hds (by simp)
    | succ m =>
    rw [rg'_cons, List.map_cons, List.cons.injEq] at hds
    obtain ⟨rfl, rfl⟩ := hds
    mul_fits
    refine ⟨rfl, c + 1, m, by omega, rfl, ?_⟩
    rw [List.range_succ, List.map_append]
    rfl
  · rintro r S' ⟨rfl, c, m, hcm, hds, rfl⟩
    refine ⟨trivial, ?_⟩
    cases m with
    | succ m => exact absurd hds (by simp [rg'_cons])
    | zero =>
    have hc : c = g.cs.length := by omega
    subst hc
    mul_fits
    refine w_ask (by simp; exact le_size (by omega)) ?_
    mul_fits
    have v : IV (S' ++ [Ob.lst (pl.map natD ++ (List.range g.cs.length).map fun q => natD (h.spots + q))]) (.ref S'.length) (imG pl g.ar h.spots) g.spots := .inr ⟨S'.length, _, rfl, get_end _ _, fun q hq => by
      have sp := g.sp
      unfold imG
      split
      · rw [List.getElem?_append_left (by simp; omega)]
        simp [List.getD, hpl, ‹q < g.ar›]
      · rw [List.getElem?_append_right (by simp; omega), List.length_map, hpl, List.getElem?_map, List.getElem?_range (show q - g.ar < g.cs.length by omega)]
        rfl⟩
    refine moved_w v (fun p hp => by have := hg.tie p hp; omega) (by omega) ?_
    have tr : trOf (S' ++ [Ob.lst (pl.map natD ++ (List.range g.cs.length).map fun q => natD (h.spots + q))] ++ [Ob.lst ((g.ts.map (mv (imG pl g.ar h.spots))).map Pt.d)]) (.val (.ref (S' ++ [Ob.lst (pl.map natD ++ (List.range g.cs.length).map fun q => natD (h.spots + q))]).length)) = some ((g.ts.map (mv (imG pl g.ar h.spots))).map Pt.d) := by simp only [trOf, get_end]
    mul_fits
    refine w_may tr ?_
    refine w_ask (by simp; exact le_size (by omega)) ?_
    rw [← List.map_append]
    mul_fits
    rw [st_append]
    have ls := show lsOf (S' ++ [Ob.lst (pl.map natD ++ (List.range g.cs.length).map fun q => natD (h.spots + q))] ++ [Ob.lst ((g.ts.map (mv (imG pl g.ar h.spots))).map Pt.d)] ++ [Ob.lst ((h.ts ++ g.ts.map (mv (imG pl g.ar h.spots))).map Pt.d)]) (.val (.ref (S' ++ [Ob.lst (pl.map natD ++ (List.range g.cs.length).map fun q => natD (h.spots + q))] ++ [Ob.lst ((g.ts.map (mv (imG pl g.ar h.spots))).map Pt.d)]).length)) = some ((h.ts ++ g.ts.map (mv (imG pl g.ar h.spots))).map Pt.d) by simp only [lsOf, get_end]
    mul_fits
    refine w_may ls ?_
    refine sort_pts ?_
    mul_fits
    rw [List.append_assoc, List.append_assoc]
    show W (gc S' (glu h pl g).d _) Q
    rw [gc_app (below_wb (glu h pl g))]
    exact w_ok hq
end
/-! ### the law's own gluing and renumbering -/
theorem min_nat (a b : Nat) : (if (b : Int) < (a : Int) then (b : Int) else (a : Int)) = ((min a b : Nat) : Int) := by split <;> omega
theorem max_nat (a b : Nat) : (if (b : Int) > (a : Int) then (b : Int) else (a : Int)) = ((max a b : Nat) : Int) := by split <;> omega
def prD (x : Nat × Nat) : D := .tup [natD x.1, singD x.2]
def prP (x : Nat × Nat) : PyData := .tuple [.int (x.1 : Nat), .str ⟨#[x.2]⟩]
theorem pr_inj (a b : Nat × Nat) (h : PySem.W.keyToks (prP a) = PySem.W.keyToks (prP b)) : a = b := by
  simp [prP, PySem.W.keyToks, PySem.W.keyToksAll] at h
  obtain ⟨h1, h2⟩ := h
  cases a
  cases b
  simp at h1 h2 ⊢
  exact ⟨by omega, h2⟩
theorem toPs_prs (f : Nat → Option PyData) (l : List (Nat × Nat)) : toPsW f (l.map prD) = some (l.map prP) := by
  induction l with
  | nil => rfl
  | cons x l ih => simp [toPsW, toPW, ih, prD, prP, singD]
theorem sort_prs {S : Sto} {l : List (Nat × Nat)} {Q : List D → Sto → Prop} (h : Q ((l.mergeSort (PySem.W.dataLe false prP)).map prD) S) : W (sortD S (l.map prD)) Q := by
  have e : toPs S (l.map prD) = some (l.map prP) := toPs_prs _ _
  unfold sortD
  rw [e]
  have es : (l.map prD).mergeSort (PySem.W.dataLe false fun d => (toP S d).getD .none) = (l.mergeSort (PySem.W.dataLe false prP)).map prD := by
    refine (PySem.W.sort_maps prD fun a _ b _ => ?_).symm
    have ep : ∀ p : Nat × Nat, (toP S (prD p)).getD .none = prP p := fun p => by
      have : toP S (prD p) = some (prP p) := by simp [toP, toPW, toPsW, prP, prD, singD]
      rw [this]
      rfl
    rw [PySem.W.dataLe_eq, PySem.W.dataLe_eq]
    simp only [ep]
  rw [es]
  refine w_ask ⟨fun a ha b hb => ?_, .inl fun a ha => ?_, fun a ha => ?_⟩ (w_ok h)
  · obtain ⟨x, _, rfl⟩ := List.mem_map.mp ha
    obtain ⟨y, _, rfl⟩ := List.mem_map.mp hb
    simp [PySem.W.alike, PySem.W.alikeAll, prP]
  · obtain ⟨x, _, rfl⟩ := List.mem_map.mp ha
    exact ⟨_, _, rfl⟩
  · obtain ⟨x, _, rfl⟩ := List.mem_map.mp ha
    simp [PyData.depth, PyData.depthAll, prP]
/-- the marks by their new places -/
theorem sorted_marks {cs : List Nat} {ar : Nat} {im inv : Nat → Nat} (b : Bij im inv ar cs.length) : ((List.range cs.length).map fun k => (im (ar + k), cs.getD k 0)).mergeSort (PySem.W.dataLe false prP) = (List.range cs.length).map fun j => (ar + j, (putm cs ar im cs.length).getD j 0) := by
  have pm : ((List.range cs.length).map fun k => (im (ar + k), cs.getD k 0)).Perm ((List.range cs.length).map fun j => (ar + j, (putm cs ar im cs.length).getD j 0)) := by
    have pp := (putm_put b).2
    refine (List.perm_ext_iff_of_nodup ?_ ?_).mpr fun x => ?_
    · rw [List.Nodup, List.pairwise_map]
      refine List.Pairwise.imp_of_mem ?_ List.nodup_range
      intro x y hx hy hxy e
      have hx := List.mem_range.mp hx
      have hy := List.mem_range.mp hy
      simp only [Prod.mk.injEq] at e
      have e1 := b.back (show ar + x < ar + cs.length by omega)
      have e2 := b.back (show ar + y < ar + cs.length by omega)
      rw [e.1, e2] at e1
      omega
    · rw [List.Nodup, List.pairwise_map]
      refine List.Pairwise.imp_of_mem ?_ List.nodup_range
      intro x y hx hy hxy e
      simp only [Prod.mk.injEq] at e
      omega
    · simp only [List.mem_map, List.mem_range]
      constructor
      · rintro ⟨k, hk, rfl⟩
        obtain ⟨a1, a2, a3⟩ := b.h1 (ar + k) (by omega) (by omega)
        exact ⟨im (ar + k) - ar, by omega, by rw [pp k hk, show ar + (im (ar + k) - ar) = im (ar + k) by omega]⟩
      · rintro ⟨j, hj, rfl⟩
        obtain ⟨c1, c2, c3⟩ := b.h2 (ar + j) (by omega) (by omega)
        have := pp (inv (ar + j) - ar) (by omega)
        rw [show ar + (inv (ar + j) - ar) = inv (ar + j) by omega, c3, Nat.add_sub_cancel_left] at this
        exact ⟨inv (ar + j) - ar, by omega, by rw [show ar + (inv (ar + j) - ar) = inv (ar + j) by omega, c3, this]⟩
  rw [sort_congr2 pr_inj pm]
  refine List.mergeSort_of_pairwise ?_
  rw [List.pairwise_map]
  refine List.Pairwise.imp ?_ List.pairwise_lt_range
  intro i j hij
  rw [PySem.W.dataLe_eq]
  show (!PySem.W.dataLt (prP _) (prP _)) = true
  unfold prP
  rw [PySem.W.dataLt_pair (by simp [PySem.W.alike]) (by simp [PySem.W.alike])]
  have e : PyData.eqv (.int ((ar + j : Nat) : Int)) (.int ((ar + i : Nat) : Int)) = false := by
    show ((((ar + j : Nat) : Int)) == (((ar + i : Nat) : Int))) = false
    exact beq_eq_false_iff_ne.mpr (by omega)
  simp only [e, Bool.false_eq_true, if_false, PySem.W.dataLt_int]
  simp
  omega
section
variable {k : Nat} {S : Sto} {Q : D → Sto → Prop} {w h g : Wb} {im inv : Nat → Nat} {pl : List Nat}
theorem lglued_w (hh : h.Ok) (hg : g.Ok) (o : PlOk h pl g.ar) (hz : h.cs.length + g.cs.length ≤ 5000) (hz2 : h.ts.length + g.ts.length ≤ 5000) (hq : Q (glu h pl g).d S) : W (orc T (k + 2) 17 [h.d, .tup (pl.map natD), g.d] S) Q := by
  refine orc_w (ρ := [some h.d, some (.tup (pl.map natD)), some g.d, none, none, none, none, none, none, none]) rfl rfl rfl ?_
  show W (evSs _ b__law_glued _ _) _
  simp only [b__law_glued]
  have q3 : (stS h.cs).length + (stS g.cs).length ≤ sizeLine := by rw [st_length, st_length]; exact le_size (by omega)
  have hpl := o.len
  mul_fits
  refine many_w (by omega) ?_
  mul_fits
  refine loopS_w (fun ds ρ S' => ∃ (rest acc : List Pt) (o5 o6 o7 o8 o9 : Option D), ds = rest.map Pt.d ∧ S' = S ++ [.lst (acc.map Pt.d)] ∧ ρ = [some h.d, some (.tup (pl.map natD)), some g.d, some (.int ((h.spots : Int) - (g.ar : Int))), some (.ref S.length), o5, o6, o7, o8, o9] ∧ (∀ p ∈ rest, p.one < g.spots ∧ p.other < g.spots) ∧ acc ++ rest.map (mv (imG pl g.ar h.spots)) = h.ts ++ g.ts.map (mv (imG pl g.ar h.spots))) ?_ ?_ _ _ _ ⟨g.ts, h.ts, _, _, _, _, _, rfl, rfl, rfl, fun p hp => by have := hg.tie p hp; omega, rfl⟩
  · rintro d ds ρ S' ⟨rest, acc, o5, o6, o7, o8, o9, hds, rfl, rfl, hp, hr⟩
    refine ⟨trivial, ?_⟩
    cases rest with
    | nil => exact absurd hds (by simp)
    | cons p rest =>
    rw [List.map_cons, List.cons.injEq] at hds
    obtain ⟨rfl, rfl⟩ := hds
    obtain ⟨p1, p2⟩ := hp p (by simp)
    have hal : (acc.map Pt.d).length < sizeLine := by
      have := congrArg List.length hr
      simp at this
      rw [List.length_map]
      exact le_size (by omega)
    have k1 := get_end S (.lst (acc.map Pt.d))
    have apl : ∀ q, q < g.ar → atI (pl.map natD) (q : Int) = some (natD (pl.getD q 0)) := fun q hq => by
      rw [at_map _ _ _ (by omega)]
      simp [List.getD, hpl, hq]
    have pick : ∀ (q : Nat) (ρ : En) (v : Nat) (QQ : D → Sto → Prop), ρ[v]? = some (some (natD q)) → ρ[1]? = some (some (.tup (pl.map natD))) → ρ[2]? = some (some g.d) → ρ[3]? = some (some (.int ((h.spots : Int) - (g.ar : Int)))) → QQ (natD (imG pl g.ar h.spots q)) (S ++ [.lst (acc.map Pt.d)]) → W (evE (orc T (k + 1)) (.ife (.v (.cmp .lt (.var v) (.idx (.var 2) (.lit (.int 0))))) (.idx (.var 1) (.var v)) (.bin .add (.var 3) (.var v))) ρ (S ++ [.lst (acc.map Pt.d)])) QQ := by
      intro q ρ v QQ e1 e2 e3 e4 hQ
      refine w_ife (w_tv (w_cmp (w_var e1 (w_idx (w_var e3 (w_lit ?_))))))
      mul_fits
      refine w_ifd (fun c => ?_) fun c => ?_
      · have hc : q < g.ar := by omega
        refine w_idx (w_var e2 (w_var e1 (v_idxT (apl q hc) ?_)))
        have : imG pl g.ar h.spots q = pl.getD q 0 := if_pos hc
        rw [this] at hQ
        exact hQ
      · have hc : ¬ q < g.ar := by omega
        refine w_bin (w_var e4 (w_var e1 (v_add ?_)))
        have : imG pl g.ar h.spots q = h.spots + (q - g.ar) := if_neg hc
        rw [this] at hQ
        have e : (h.spots : Int) - (g.ar : Int) + (q : Int) = ((h.spots + (q - g.ar) : Nat) : Int) := by omega
        rw [e]
        exact hQ
    simp only [b__law_glued_1]
    refine w_scons (w_set ?_)
    refine pick p.one _ 5 _ rfl rfl rfl rfl ?_
    refine w_nx (w_scons (w_set ?_))
    refine pick p.other _ 6 _ rfl rfl rfl rfl ?_
    mul_fits
    rw [set_end, min_nat, max_nat]
    exact ⟨_, .inl rfl, rest, acc ++ [mv (imG pl g.ar h.spots) p], _, _, _, _, _, rfl, by simp [mv], rfl, fun q hq => hp q (by simp [hq]), by rw [← hr]; simp⟩
  · rintro ρ S' ⟨rest, acc, o5, o6, o7, o8, o9, hds, rfl, rfl, hp, hr⟩
    refine ⟨trivial, ?_⟩
    cases rest with
    | cons k0 ks => exact absurd hds (by simp)
    | nil =>
    rw [List.map_nil, List.append_nil] at hr
    subst hr
    mul_fits
    simp only [b__law_glued_2]
    have ls := show lsOf (S ++ [Ob.lst ((h.ts ++ g.ts.map (mv (imG pl g.ar h.spots))).map Pt.d)]) (.val (.ref S.length)) = some ((h.ts ++ g.ts.map (mv (imG pl g.ar h.spots))).map Pt.d) by simp only [lsOf, get_end]
    mul_fits
    rw [st_append]
    refine w_may ls ?_
    refine sort_pts ?_
    mul_fits
    show W (gc S (glu h pl g).d _) Q
    rw [gc_app (below_wb (glu h pl g))]
    exact w_ok hq
theorem lrenumbered_w (b : Bij im inv w.ar w.cs.length) (ok : w.Ok) (hz : w.cs.length ≤ 5000) (hz2 : w.ts.length ≤ 5000) (h : Q (ren w im).d S) : W (orc T (k + 1) 18 [w.d, imD im w.spots] S) Q := by
  refine orc_w (ρ := [some w.d, some (imD im w.spots), none, none, none, none, none, none, none, none]) rfl rfl rfl ?_
  show W (evSs _ b__law_renumbered _ _) _
  simp only [b__law_renumbered]
  have q1 : (stS w.cs).length ≤ sizeLine := by rw [st_length]; exact le_size (by omega)
  have sp := w.sp
  have aim : ∀ q, q < w.spots → atI ((List.range w.spots).map fun q => natD (im q)) (q : Int) = some (natD (im q)) := fun q hq => at_some (by rw [List.getElem?_map, List.getElem?_range hq]; rfl)
  mul_fits
  rw [st_length]
  mul_fits
  refine ⟨by show (rgD 0 _).length ≤ sizeLine; rw [rgD0]; simp; exact le_size (by omega), ?_⟩
  refine loopQ_w (fun ds r S' => S' = S ∧ ∃ c m, c + m = w.cs.length ∧ ds = (List.range' c m).map natD ∧ r = ((List.range c).map fun k => (im (w.ar + k), w.cs.getD k 0)).map prD) ?_ ?_ _ _ ⟨rfl, 0, w.cs.length, by omega, rgD_0 _, rfl⟩
  · rintro d ds r S' ⟨rfl, c, m, hcm, hds, rfl⟩
    refine ⟨trivial, ?_⟩
    cases m with
    | zero => exact absurd hds (by simp)
    | succ m =>
    rw [rg'_cons, List.map_cons, List.cons.injEq] at hds
    obtain ⟨rfl, rfl⟩ := hds
    have ac := at_st (cs := w.cs) (k := c) (by omega)
    have ai : atI ((List.range w.spots).map fun q => natD (im q)) ((w.ar : Int) + (c : Int)) = some (natD (im (w.ar + c))) := by
      rw [← Int.natCast_add]
      exact aim _ (by omega)
    unfold imD
    mul_fits
    refine ⟨rfl, c + 1, m, by omega, rfl, ?_⟩
    rw [List.range_succ, List.map_append, List.map_append]
    rfl
  · rintro r S' ⟨rfl, c, m, hcm, hds, rfl⟩
    refine ⟨trivial, ?_⟩
    cases m with
    | succ m => exact absurd hds (by simp [rg'_cons])
    | zero =>
    have hc : c = w.cs.length := by omega
    subst hc
    mul_fits
    refine sort_prs ?_
    rw [sorted_marks b]
    mul_fits
    generalize hA : S' ++ [Ob.lst (((List.range w.cs.length).map fun j => (w.ar + j, (putm w.cs w.ar im w.cs.length).getD j 0)).map prD)] = A
    have gA : ∀ o, (A ++ [o])[S'.length]? = some (.lst (((List.range w.cs.length).map fun j => (w.ar + j, (putm w.cs w.ar im w.cs.length).getD j 0)).map prD)) := fun o => by
      rw [← hA]
      exact get_mid _ _ _
    refine loopS_w (fun ds ρ S2 => ∃ (rest acc : List Pt) (o4 o5 o6 : Option D), ds = rest.map Pt.d ∧ S2 = A ++ [.lst (acc.map Pt.d)] ∧ ρ = [some w.d, some (imD im w.spots), some (.ref S'.length), some (.ref A.length), o4, o5, o6, none, none, none] ∧ (∀ p ∈ rest, p.one < w.spots ∧ p.other < w.spots) ∧ acc ++ rest.map (mv im) = w.ts.map (mv im)) ?_ ?_ _ _ _ ⟨w.ts, [], _, _, _, rfl, rfl, rfl, fun p hp => by have := ok.tie p hp; omega, rfl⟩
    · rintro d ds ρ S2 ⟨rest, acc, o4, o5, o6, hds, rfl, rfl, hp, hr⟩
      refine ⟨trivial, ?_⟩
      cases rest with
      | nil => exact absurd hds (by simp)
      | cons p rest =>
      rw [List.map_cons, List.cons.injEq] at hds
      obtain ⟨rfl, rfl⟩ := hds
      obtain ⟨p1, p2⟩ := hp p (by simp)
      have hal : (acc.map Pt.d).length < sizeLine := by
        have := congrArg List.length hr
        simp at this
        rw [List.length_map]
        exact le_size (by omega)
      have k1 := get_end A (.lst (acc.map Pt.d))
      have a1 := aim _ p1
      have a2 := aim _ p2
      simp only [b__law_renumbered_1]
      unfold imD
      mul_fits
      rw [set_end, min_nat, max_nat]
      exact ⟨_, .inl rfl, rest, acc ++ [mv im p], _, _, _, rfl, by simp [mv], rfl, fun q hq => hp q (by simp [hq]), by rw [← hr]; simp⟩
    · rintro ρ S2 ⟨rest, acc, o4, o5, o6, hds, rfl, rfl, hp, hr⟩
      refine ⟨trivial, ?_⟩
      cases rest with
      | cons k0 ks => exact absurd hds (by simp)
      | nil =>
      rw [List.map_nil, List.append_nil] at hr
      subst hr
      mul_fits
      simp only [b__law_renumbered_2]
      have it : itOf (.val (.ref S'.length)) (A ++ [Ob.lst ((w.ts.map (mv im)).map Pt.d)]) = some ⟨((List.range w.cs.length).map fun j => (w.ar + j, (putm w.cs w.ar im w.cs.length).getD j 0)).map prD, some S'.length⟩ := by simp only [itOf, sqOf, lsOf, gA]; rfl
      have ls := show lsOf (A ++ [Ob.lst ((w.ts.map (mv im)).map Pt.d)]) (.val (.ref A.length)) = some ((w.ts.map (mv im)).map Pt.d) by simp only [lsOf, get_end]
      mul_fits
      refine w_may it ?_
      mul_fits
      refine ⟨by show (((List.range _).map _).map prD).length ≤ sizeLine; simp; exact le_size (by omega), ?_⟩
      refine loopQ_w (fun ds r S3 => S3 = A ++ [Ob.lst ((w.ts.map (mv im)).map Pt.d)] ∧ ∃ l : List (Nat × Nat), ds = l.map prD ∧ r ++ (l.map (·.2)).map singD = (putm w.cs w.ar im w.cs.length).map singD) ?_ ?_ _ _ ⟨rfl, _, rfl, ?_⟩
      · rintro d ds r S3 ⟨rfl, l, hds, hr⟩
        refine ⟨gA _, ?_⟩
        cases l with
        | nil => exact absurd hds (by simp)
        | cons x l =>
        rw [List.map_cons, List.cons.injEq] at hds
        obtain ⟨rfl, rfl⟩ := hds
        unfold prD
        mul_fits
        refine ⟨rfl, l, rfl, ?_⟩
        rw [← hr]
        simp
      · rintro r S3 ⟨rfl, l, hds, hr⟩
        refine ⟨gA _, ?_⟩
        cases l with
        | cons x l => exact absurd hds (by simp)
        | nil =>
        simp only [List.map_nil, List.append_nil] at hr
        subst hr
        mul_fits
        refine w_may (strs_sing _) ?_
        refine w_ask ?_ ?_
        · rw [sum_ones, putm_len]
          have : Str.length "" = 0 := by decide
          rw [this]
          omega
        rw [glued_sing]
        mul_fits
        refine w_may ls ?_
        refine sort_pts ?_
        mul_fits
        rw [← hA, List.append_assoc]
        show W (gc S' (ren w im).d _) Q
        rw [gc_app (below_wb (ren w im))]
        exact w_ok h
      · rw [List.nil_append, List.map_map, List.map_map]
        refine List.ext_getElem (by simp [putm_len]) fun i h1 h2 => ?_
        have : i < (putm w.cs w.ar im w.cs.length).length := by simpa using h2
        simp [this, Function.comp_def]
end
/-! ### what is asked -/
theorem bools_const (l : List Nat) (P : Nat → Bool) : boolsOf (l.map fun j => D.bl (P j)) = some (l.map P) := by
  have := bools_map (l.map P)
  rw [List.map_map] at this
  exact this
/-- a comprehension over things that are looked at: all answers are True -/
theorem comp_true {C : Orc} {ρ : En} {S : Sto} {own : List Nat} {v : Nat} {e : CE} {items : List D} {QQ : List D → Sto → Prop} {at_ : Option Nat} (hst : Itv.still ⟨items, at_⟩ S)
    (he : ∀ (x : D) (Q' : D → Sto → Prop), x ∈ items → Q' (.bl true) S → W (evE C e ((wipeE ρ own).set v (some x)) S) Q')
    (h : QQ (List.replicate items.length (.bl true)) S) : W (loopQ (Itv.still ⟨items, at_⟩) (fun d S2 => may (bindN (.nm v) d (wipeE ρ own) S2) fun ρ' => (evE C e ρ' S2).bind fun x S3 => .ok (some x) S3) items S) QQ := by
  refine loopQ_w (fun ds r S' => S' = S ∧ (∀ x ∈ ds, x ∈ items) ∧ r ++ List.replicate ds.length (.bl true) = List.replicate items.length (.bl true)) ?_ ?_ _ _ ⟨rfl, fun _ h => h, rfl⟩
  · rintro d ds r S' ⟨rfl, hm, hr⟩
    refine ⟨hst, ?_⟩
    show W (Res.bind _ _) _
    refine w_bind (he d _ (hm d (by simp)) (w_ok ⟨rfl, fun x hx => hm x (by simp [hx]), ?_⟩))
    rw [← hr]
    simp [List.replicate_succ]
  · rintro r S' ⟨rfl, hm, hr⟩
    refine ⟨hst, ?_⟩
    simp only [List.length_nil, List.replicate_zero, List.append_nil] at hr
    rw [hr]
    exact h
theorem all_true (n : Nat) {S : Sto} {Q : D → Sto → Prop} (h : Q (.bl true) S) : W (aggD .all (.own (List.replicate n (.bl true))) S) Q := by
  have e : boolsOf (List.replicate n (D.bl true)) = some (List.replicate n true) := by
    have := bools_map (List.replicate n true)
    simpa using this
  refine v_all rfl e ?_
  have : (List.replicate n true).all id = true := by simp
  rw [this]
  exact h
section
variable {k : Nat} {S : Sto} {Q : D → Sto → Prop} {w h g : Wb} {im inv : Nat → Nat} {pl : List Nat}
theorem is_int_w {i : Int} (h : Q (.bl true) S) : W (orc T (k + 1) 11 [.int i] S) Q := by
  refine orc_w (ρ := [some (.int i)]) rfl rfl rfl ?_
  show W (evSs _ b__law_is_int _ _) _
  simp only [b__law_is_int]
  mul_fits
  exact h
theorem is_tie_w {p : Pt} (h : Q (.bl true) S) : W (orc T (k + 2) 20 [p.d] S) Q := by
  refine orc_w (ρ := [some p.d]) rfl rfl rfl ?_
  show W (evSs _ b__law_is_tie _ _) _
  simp only [b__law_is_tie]
  mul_fits
  simp only [b__law_is_tie_1]
  mul_fits
  refine is_int_w ?_
  mul_fits
  refine is_int_w ?_
  mul_fits
  exact h
theorem is_web_w (s : w.Sk) (hz2 : w.ts.length ≤ 5000) (h : Q (.bl true) S) : W (orc T (k + 3) 21 [w.d, w.d] S) Q := by
  refine orc_w (ρ := [some w.d, some w.d, none]) rfl rfl rfl ?_
  show W (evSs _ b__law_is_web _ _) _
  simp only [b__law_is_web]
  mul_fits
  refine is_int_w ?_
  mul_fits
  simp only [b__law_is_web_1]
  mul_fits
  refine ⟨by show (w.ts.map Pt.d).length ≤ sizeLine; rw [List.length_map]; exact le_size (by omega), ?_⟩
  refine comp_true trivial (fun x Q' hx hq => ?_) ?_
  · obtain ⟨p, _, rfl⟩ := List.mem_map.mp hx
    mul_fits
    exact is_tie_w hq
  · mul_fits
    refine all_true _ ?_
    mul_fits
    simp only [b__law_is_web_2]
    refine w_scons (w_ret (w_cmp (w_var rfl (w_var rfl ?_))))
    have e : cmpD .eq w.d w.d S = .ok (.bl true) S := by simp only [cmpD, eq_wb s, may_some]
    rw [e]
    mul_fits
    exact h
/-- sizes of a web -/
def Sz (n m : Nat) (w : Wb) : Prop := w.cs.length ≤ n ∧ w.ts.length ≤ m
theorem glu_sz {a b c d : Nat} (h1 : Sz a b h) (h2 : Sz c d g) : Sz (a + c) (b + d) (glu h pl g) := by
  refine ⟨?_, ?_⟩
  · show (h.cs ++ g.cs).length ≤ _
    rw [List.length_append]
    have := h1.1
    have := h2.1
    omega
  · show (srt _).length ≤ _
    rw [(srt_perm _).length_eq, List.length_append, List.length_map]
    have := h1.2
    have := h2.2
    omega
theorem ren_sz {a b : Nat} (h1 : Sz a b w) : Sz a b (ren w im) := by
  refine ⟨?_, ?_⟩
  · show (putm _ _ _ _).length ≤ _
    rw [putm_len]
    exact h1.1
  · show (srt _).length ≤ _
    rw [(srt_perm _).length_eq, List.length_map]
    exact h1.2
theorem glue_holds_w (hh : h.Ok) (hg : g.Ok) (sh : h.Sk) (sg : g.Sk) (o : PlOk h pl g.ar) (z1 : Sz 2000 2000 h) (z2 : Sz 2000 2000 g) (hq : Q (.bl true) S) : W (orc T (k + 4) 22 [h.d, .tup (pl.map natD), g.d] S) Q := by
  refine orc_w (ρ := [some h.d, some (.tup (pl.map natD)), some g.d]) rfl rfl rfl ?_
  show W (evSs _ b__law_glue_holds _ _) _
  simp only [b__law_glue_holds]
  have := z1.1
  have := z1.2
  have := z2.1
  have := z2.2
  mul_fits
  refine glue_w hh hg o (by omega) (by omega) ?_
  mul_fits
  refine lglued_w hh hg o (by omega) (by omega) ?_
  mul_fits
  refine is_web_w (glu_sk sh sg) (by have := (glu_sz (pl := pl) z1 z2).2; omega) ?_
  mul_fits
  exact hq
/-- the ends at a spot -/
def tat (spot : Int) : List Pt → List (Int × Str)
  | [] => []
  | p :: r => if (p.one : Int) = spot then ((p.other : Int), p.strand) :: tat spot r else if (p.other : Int) = spot then ((p.one : Int), p.strand) :: tat spot r else tat spot r
def endD (x : Int × Str) : D := .tup [.int x.1, .str x.2]
theorem tat_len (spot : Int) : ∀ l : List Pt, (tat spot l).length ≤ l.length
  | [] => by simp [tat]
  | p :: r => by
    have := tat_len spot r
    unfold tat
    split
    · simp; omega
    · split
      · simp; omega
      · simp; omega
theorem tat_sok {spot : Int} : ∀ {l : List Pt}, (∀ p ∈ l, PyData.strOk p.strand = true) → ∀ x ∈ tat spot l, PyData.strOk x.2 = true
  | [], _, x, hx => by simp [tat] at hx
  | p :: r, h, x, hx => by
    have hp := h p (by simp)
    have hr := tat_sok (spot := spot) (l := r) fun q hq => h q (by simp [hq])
    unfold tat at hx
    split at hx
    · rcases List.mem_cons.mp hx with rfl | hx
      · exact hp
      · exact hr x hx
    · split at hx
      · rcases List.mem_cons.mp hx with rfl | hx
        · exact hp
        · exact hr x hx
      · exact hr x hx
theorem below_ends (l : List (Int × Str)) {n : Nat} : below n (.tup (l.map endD)) := by
  show belows n _
  refine belows_iff.mpr fun x hx => ?_
  obtain ⟨p, _, rfl⟩ := List.mem_map.mp hx
  exact ⟨trivial, trivial, trivial⟩
theorem ties_at_w {spot : Int} (hz2 : w.ts.length ≤ 5000) (h : Q (.tup ((tat spot w.ts).map endD)) S) : W (orc T (k + 1) 1 [w.d, .int spot] S) Q := by
  refine orc_w (ρ := [some w.d, some (.int spot), none, none, none, none]) rfl rfl rfl ?_
  show W (evSs _ b_ties_at _ _) _
  simp only [b_ties_at]
  mul_fits
  refine loopS_w (fun ds ρ S' => ∃ (rest : List Pt) (acc : List (Int × Str)) (o3 o4 o5 : Option D), ds = rest.map Pt.d ∧ S' = S ++ [.lst (acc.map endD)] ∧ ρ = [some w.d, some (.int spot), some (.ref S.length), o3, o4, o5] ∧ acc ++ tat spot rest = tat spot w.ts) ?_ ?_ _ _ _ ⟨w.ts, [], _, _, _, rfl, rfl, rfl, rfl⟩
  · rintro d ds ρ S' ⟨rest, acc, o3, o4, o5, hds, rfl, rfl, hr⟩
    refine ⟨trivial, ?_⟩
    cases rest with
    | nil => exact absurd hds (by simp)
    | cons p rest =>
    rw [List.map_cons, List.cons.injEq] at hds
    obtain ⟨rfl, rfl⟩ := hds
    have hal : (acc.map endD).length < sizeLine := by
      have h1 := congrArg List.length hr
      have h2 := tat_len spot w.ts
      rw [List.length_append] at h1
      rw [List.length_map]
      exact le_size (by omega)
    have k1 := get_end S (.lst (acc.map endD))
    simp only [b_ties_at_1]
    rw [tat] at hr
    mul_fits
    refine w_ifd (fun c => ?_) fun c => ?_
    · rw [if_pos c] at hr
      mul_fits
      rw [set_end]
      exact ⟨_, .inl rfl, rest, acc ++ [((p.other : Int), p.strand)], _, _, _, rfl, by simp [endD], rfl, by rw [← hr]; simp⟩
    · rw [if_neg c] at hr
      mul_fits
      refine w_ifd (fun c2 => ?_) fun c2 => ?_
      · rw [if_pos c2] at hr
        mul_fits
        rw [set_end]
        exact ⟨_, .inl rfl, rest, acc ++ [((p.one : Int), p.strand)], _, _, _, rfl, by simp [endD], rfl, by rw [← hr]; simp⟩
      · rw [if_neg c2] at hr
        mul_fits
        exact ⟨_, .inl rfl, rest, acc, _, _, _, rfl, rfl, rfl, hr⟩
  · rintro ρ S' ⟨rest, acc, o3, o4, o5, hds, rfl, rfl, hr⟩
    refine ⟨trivial, ?_⟩
    cases rest with
    | cons k0 ks => exact absurd hds (by simp)
    | nil =>
    have hr : acc ++ [] = tat spot w.ts := hr
    rw [List.append_nil] at hr
    subst hr
    mul_fits
    simp only [b_ties_at_2]
    have sq := show sqOf (S ++ [Ob.lst ((tat spot w.ts).map endD)]) (.val (.ref S.length)) = some ((tat spot w.ts).map endD) by simp only [sqOf, lsOf, get_end]
    mul_fits
    rw [gc_app (below_ends _)]
    exact w_ok h
def endP (x : Int × Str) : PyData := .tuple [.int x.1, .str x.2]
theorem toPs_ends (f : Nat → Option PyData) (l : List (Int × Str)) : toPsW f (l.map endD) = some (l.map endP) := by
  induction l with
  | nil => rfl
  | cons x l ih => simp [toPsW, toPW, ih, endD, endP]
theorem lay_ends : ∀ (l : List (Int × Str)), (∀ p ∈ l, PyData.strOk p.2 = true) → PyData.canLayAll0 (l.map endP) = true ∧ PyData.depthAll (l.map endP) ≤ 1
  | [], _ => by simp [PyData.canLayAll0, PyData.depthAll]
  | p :: l, h => by
    have ih := lay_ends l fun q hq => h q (by simp [hq])
    have hp := h p (by simp)
    simp [PyData.canLayAll0, PyData.depthAll, PyData.canLay0, PyData.depth, ih.1, ih.2, endP, hp]
theorem eq_lists {S : Sto} {a b : Nat} {l : List (Int × Str)} (ha : S[a]? = some (.lst (l.map endD))) (hb : S[b]? = some (.lst (l.map endD))) (hs : ∀ p ∈ l, PyData.strOk p.2 = true) : dEq S (.ref a) (.ref b) = some true := by
  have e : ∀ c, S[c]? = some (.lst (l.map endD)) → toP S (.ref c) = some (.list (l.map endP)) := fun c hc => by
    show (match S[c]? with
      | some (Ob.lst ds) => (toPsW (refP S 7) ds).map PyData.list
      | none => none) = _
    rw [hc]
    show (toPsW (refP S 7) (l.map endD)).map PyData.list = _
    rw [toPs_ends]
    rfl
  have sc : scalD (.ref a) (.ref b) = false := rfl
  unfold dEq
  rw [sc, e a ha, e b hb]
  obtain ⟨h1, h2⟩ := lay_ends l hs
  have hsh : SeqAt.shaped (.list (l.map endP)) = true := by
    simp only [SeqAt.shaped, PyData.canLay0, PyData.depth, h1, Bool.true_and]
    exact decide_eq_true (by omega)
  have hr := SeqAt.eqv_refl _ (SeqAt.canLay_of_shaped hsh)
  simp only [hsh, hr, Bool.and_self, if_true, Bool.false_eq_true, if_false]
theorem spot_in {spot a b : Int} : ([D.int a, D.int b].any fun y => eqF y (.int spot)) = (decide (a = spot) || decide (b = spot)) := by
  simp only [List.any_cons, List.any_nil, Bool.or_false]
  rw [Bool.eq_iff_iff]
  simp [eqF]
theorem ends_hold_w {spot : Int} (ok : w.Ok) (s : w.Sk) (hz2 : w.ts.length ≤ 5000) (h : Q (.bl true) S) : W (orc T (k + 2) 23 [w.d, .int spot] S) Q := by
  refine orc_w (ρ := [some w.d, some (.int spot), none, none, none, none, none, none]) rfl rfl rfl ?_
  show W (evSs _ b__law_ends_hold _ _) _
  simp only [b__law_ends_hold]
  mul_fits
  refine ties_at_w hz2 ?_
  mul_fits
  refine ⟨by show (w.ts.map Pt.d).length ≤ sizeLine; rw [List.length_map]; exact le_size (by omega), ?_⟩
  refine loopQ_w (fun ds r S' => S' = S ∧ ∃ (rest : List Pt) (acc : List (Int × Str)), ds = rest.map Pt.d ∧ r = acc.map endD ∧ (∀ p ∈ rest, p.one < p.other) ∧ acc ++ tat spot rest = tat spot w.ts) ?_ ?_ _ _ ⟨rfl, w.ts, [], rfl, rfl, fun p hp => (ok.tie p hp).1, rfl⟩
  · rintro d ds r S' ⟨rfl, rest, acc, hds, rfl, hp, hr⟩
    refine ⟨trivial, ?_⟩
    cases rest with
    | nil => exact absurd hds (by simp)
    | cons p rest =>
    rw [List.map_cons, List.cons.injEq] at hds
    obtain ⟨rfl, rfl⟩ := hds
    have h1 := hp p (by simp)
    rw [tat] at hr
    mul_fits
    rw [spot_in]
    by_cases c : (p.one : Int) = spot
    · rw [if_pos c] at hr
      refine w_if_T (by simp [c]) ?_
      mul_fits
      refine ⟨rfl, rest, acc ++ [((p.other : Int), p.strand)], rfl, ?_, fun q hq => hp q (by simp [hq]), by rw [← hr]; simp⟩
      have e : (p.one : Int) + (p.other : Int) - spot = (p.other : Int) := by omega
      rw [e]
      simp [endD]
    · rw [if_neg c] at hr
      by_cases c2 : (p.other : Int) = spot
      · rw [if_pos c2] at hr
        refine w_if_T (by simp [c2]) ?_
        mul_fits
        refine ⟨rfl, rest, acc ++ [((p.one : Int), p.strand)], rfl, ?_, fun q hq => hp q (by simp [hq]), by rw [← hr]; simp⟩
        have e : (p.one : Int) + (p.other : Int) - spot = (p.one : Int) := by omega
        rw [e]
        simp [endD]
      · rw [if_neg c2] at hr
        refine w_if_F (by simp [c, c2]) ?_
        mul_fits
        exact ⟨rfl, rest, acc, rfl, by simp, fun q hq => hp q (by simp [hq]), hr⟩
  · rintro r S' ⟨rfl, rest, acc, hds, rfl, hp, hr⟩
    refine ⟨trivial, ?_⟩
    cases rest with
    | cons k0 ks => exact absurd hds (by simp)
    | nil =>
    have hr : acc ++ [] = tat spot w.ts := hr
    rw [List.append_nil] at hr
    subst hr
    mul_fits
    have hl := tat_len spot w.ts
    have ec := eq_lists (S := S' ++ [Ob.lst ((tat spot w.ts).map endD)] ++ [Ob.lst ((tat spot w.ts).map endD)]) (get_end (S' ++ [Ob.lst ((tat spot w.ts).map endD)]) (Ob.lst ((tat spot w.ts).map endD))) (get_pre (get_end S' (Ob.lst ((tat spot w.ts).map endD)))) (tat_sok s.sok)
    have ec2 : cmpD .ne (.ref (S' ++ [Ob.lst ((tat spot w.ts).map endD)]).length) (.ref S'.length) (S' ++ [Ob.lst ((tat spot w.ts).map endD)] ++ [Ob.lst ((tat spot w.ts).map endD)]) = .ok (.bl false) (S' ++ [Ob.lst ((tat spot w.ts).map endD)] ++ [Ob.lst ((tat spot w.ts).map endD)]) := by simp only [cmpD, ec, may_some]; rfl
    rw [ec2]
    mul_fits
    simp only [b__law_ends_hold_1]
    mul_fits
    refine ⟨by show ((tat spot w.ts).map endD).length ≤ sizeLine; rw [List.length_map]; exact le_size (by omega), ?_⟩
    refine comp_true trivial (fun x Q' hx hq => ?_) ?_
    · obtain ⟨p, _, rfl⟩ := List.mem_map.mp hx
      unfold endD
      mul_fits
      refine is_int_w ?_
      mul_fits
      exact hq
    · mul_fits
      refine all_true _ ?_
      mul_fits
      rw [List.append_assoc, gc_app (by simp [below])]
      exact w_ok h
theorem seen_holds_w {a : Nat} {l : List D} (ha : S[a]? = some (.lst l)) (hl : l.length ≤ 5000) (hi : ∀ x ∈ l, ∃ i, x = .int i) (ok : w.Ok) (s : w.Sk) (hz : w.cs.length ≤ 5000) (hz2 : w.ts.length ≤ 5000) (h : Q (.bl true) S) : W (orc T (k + 3) 24 [w.d, .ref a] S) Q := by
  refine orc_w (ρ := [some w.d, some (.ref a), none, none]) rfl rfl rfl ?_
  show W (evSs _ b__law_seen_holds _ _) _
  simp only [b__law_seen_holds]
  mul_fits
  refine spots_w hz ?_
  mul_fits
  refine is_int_w ?_
  mul_fits
  refine many_w hz ?_
  mul_fits
  refine w_if_F (by simp) ?_
  mul_fits
  simp only [b__law_seen_holds_1]
  have it : itOf (.val (.ref a)) S = some ⟨l, some a⟩ := by simp only [itOf, sqOf, lsOf, ha]; rfl
  mul_fits
  refine w_may it ?_
  mul_fits
  refine ⟨by show l.length ≤ sizeLine; exact le_size (by omega), ?_⟩
  refine comp_true ha (fun x Q' hx hq => ?_) ?_
  · obtain ⟨i, rfl⟩ := hi x hx
    mul_fits
    exact ends_hold_w ok s hz2 hq
  · mul_fits
    refine all_true _ ?_
    mul_fits
    exact h
theorem ints_im (im : Nat → Nat) (l : List Nat) : intsOf (l.map fun q => natD (im q)) = some (l.map fun q => ((im q : Nat) : Int)) := by
  have := PQ.ints_map (l.map fun q => ((im q : Nat) : Int))
  rw [List.map_map] at this
  exact this
theorem idx_inv {ar n : Nat} (b : Bij im inv ar n) {q : Nat} (hq : q < ar + n) : (q : Int) ∈ (List.range (ar + n)).map (fun q => ((im q : Nat) : Int)) ∧ ((List.range (ar + n)).map (fun q => ((im q : Nat) : Int))).idxOf (q : Int) = inv q := by
  have hi := b.symm.lt hq
  have hb := b.symm.back hq
  have hg : ((List.range (ar + n)).map (fun q => ((im q : Nat) : Int)))[inv q]'(by simp; exact hi) = (q : Int) := by
    simp [hb]
  have nd : ((List.range (ar + n)).map (fun q => ((im q : Nat) : Int))).Nodup := by
    rw [List.Nodup, List.pairwise_map]
    refine List.Pairwise.imp_of_mem ?_ List.nodup_range
    intro x y hx hy hxy e
    have e1 := b.back (List.mem_range.mp hx)
    have e2 := b.back (List.mem_range.mp hy)
    have e3 : im x = im y := by omega
    rw [e3, e2] at e1
    omega
  refine ⟨hg ▸ List.getElem_mem _, ?_⟩
  have := List.Nodup.idxOf_getElem nd (inv q) (by simp; exact hi)
  rw [hg] at this
  exact this
theorem renumber_holds_w (b : Bij im inv w.ar w.cs.length) (ok : w.Ok) (s : w.Sk) (hz : w.cs.length ≤ 5000) (hz2 : w.ts.length ≤ 5000) (h : Q (.bl true) S) : W (orc T (k + 4) 25 [w.d, imD im w.spots] S) Q := by
  refine orc_w (ρ := [some w.d, some (imD im w.spots), none, none, none]) rfl rfl rfl ?_
  show W (evSs _ b__law_renumber_holds _ _) _
  simp only [b__law_renumber_holds]
  mul_fits
  refine lrenumbered_w b ok hz hz2 ?_
  have harl := ok.arl
  have sp := w.sp
  have lnl : ((List.range w.spots).map fun q => natD (im q)).length = w.spots := by simp
  mul_fits
  rw [lnl]
  refine ⟨by show (rgD 0 _).length ≤ sizeLine; rw [rgD0]; simp; exact le_size (by omega), ?_⟩
  refine loopQ_w (fun ds r S' => S' = S ∧ ∃ c m, c + m = w.spots ∧ ds = (List.range' c m).map natD ∧ r = (List.range c).map fun q => natD (inv q)) ?_ ?_ _ _ ⟨rfl, 0, w.spots, by omega, rgD_0 _, rfl⟩
  · rintro d ds r S' ⟨rfl, c, m, hcm, hds, rfl⟩
    refine ⟨trivial, ?_⟩
    cases m with
    | zero => exact absurd hds (by simp)
    | succ m =>
    rw [rg'_cons, List.map_cons, List.cons.injEq] at hds
    obtain ⟨rfl, rfl⟩ := hds
    obtain ⟨i1, i2⟩ := idx_inv b (q := c) (by omega)
    show W (Res.bind _ _) _
    refine w_bind (w_tix (w_var rfl ⟨_, rfl, w_var rfl ?_⟩))
    have et : tixD ((List.range w.spots).map fun q => natD (im q)) (natD c) S' = .ok (natD (inv c)) S' := by
      show may (intsOf _) _ = _
      rw [ints_im, may_some, if_pos i1, i2]
    rw [et]
    refine w_ok (w_ok ⟨rfl, c + 1, m, by omega, rfl, ?_⟩)
    rw [List.range_succ, List.map_append]
    rfl
  · rintro r S' ⟨rfl, c, m, hcm, hds, rfl⟩
    refine ⟨trivial, ?_⟩
    cases m with
    | succ m => exact absurd hds (by simp [rg'_cons])
    | zero =>
    have hc : c = w.spots := by omega
    subst hc
    refine v_tuple rfl ?_
    have hcl : (ren w im).cs.length = w.cs.length := putm_len _ _ _ _
    have hsp : (ren w im).spots = w.spots := by
      show w.ar + _ = w.ar + _
      rw [hcl]
    have ei : D.tup ((List.range w.spots).map fun q => natD (inv q)) = imD inv (ren w im).spots := by
      rw [hsp]
      rfl
    have bi : Bij inv im (ren w im).ar (ren w im).cs.length := by rw [hcl]; exact b.symm
    have tl : (ren w im).ts.length ≤ 5000 := (ren_sz (w := w) (im := im) ⟨hz, hz2⟩).2
    rw [ei]
    mul_fits
    refine renumber_w b ok hz hz2 ?_
    mul_fits
    refine is_web_w (ren_sk b s) tl ?_
    mul_fits
    refine renumber_w bi (ren_ok b ok) (by rw [hcl]; exact hz) tl ?_
    mul_fits
    rw [ren_back b ok]
    refine is_web_w s hz2 ?_
    mul_fits
    exact h
end
/-! ### draws -/
def Lt (x : D) : Prop := ∃ c : Nat, c < 1114112 ∧ x = singD c
section
variable {k : Nat} {R : Sto} {Q : D → Sto → Prop} {d : DS} {m : Int}
theorem draw_ (h1 : 0 < m) (h2 : m < 1073741824) (h : ∀ (y : Int) (d' : DS), 0 ≤ y → y < m → Q (.int y) (d'.st R)) : W (orc T (k + 1) 6 [.ref 1, .int m] (d.st R)) Q := draw_w rfl h1 h2 h
theorem rare_w (h1 : 0 < m) (h2 : m < 1000) (h : ∀ (c : Bool) (d' : DS), Q (.bl c) (d'.st R)) : W (orc T (k + 2) 8 [.ref 1, .int m] (d.st R)) Q := by
  refine orc_w (ρ := [some (.ref 1), some (.int m)]) rfl rfl rfl ?_
  show W (evSs _ b__law_rare _ _) _
  simp only [b__law_rare]
  mul_fits
  refine draw_ h1 (by omega) fun y d1 y0 y1 => ?_
  mul_fits
  rw [gc_same (by rfl)]
  exact w_ok (h _ _)
theorem pick_w {b : Nat} {row : List D} (h0 : 0 < row.length) (hl : row.length < 1000) (hb : R[b]? = some (.lst row)) (h : ∀ x ∈ row, ∀ d' : DS, Q x (d'.st R)) : W (orc T (k + 2) 7 [.ref 1, .ref (b + 2)] (d.st R)) Q := by
  refine orc_w (ρ := [some (.ref 1), some (.ref (b + 2))]) rfl rfl rfl ?_
  show W (evSs _ b__law_pick _ _) _
  simp only [b__law_pick]
  have hq : ∀ d : DS, (d.st R)[b + 2]? = some (.lst row) := fun d => hb
  have g1 : sqOf (d.st R) (.val (.ref (b + 2))) = some row := by simp only [sqOf, lsOf, hq]
  mul_fits
  refine draw_ (by omega) (by omega) fun y d1 y0 y1 => ?_
  have hy : y.toNat < row.length := by omega
  have k1 : atI row y = some (row[y.toNat]) := by
    unfold atI ixN
    rw [if_pos y0, if_pos y1]
    simp [hy]
  refine v_idx (hq d1) k1 ?_
  mul_fits
  rw [gc_same (by rfl)]
  mul_fits
  exact h _ (List.getElem_mem hy) _
theorem st_mid {o : Ob} {g : Sto} : (d.st (R ++ [o] ++ g))[R.length + 2]? = some o := by rw [st_get]; exact get_mid R g o
theorem st_set_mid {o p : Ob} {g : Sto} : (d.st (R ++ [o] ++ g)).set (R.length + 2) p = d.st (R ++ [p] ++ g) := by
  show DS.st d _ = _
  unfold DS.st
  have := set_mid R g o p
  simp only [List.set_cons_succ, this]
theorem st_set (d : DS) {R : Sto} {i : Nat} {p : Ob} : (d.st R).set (i + 2) p = d.st (R.set i p) := by
  unfold DS.st
  simp only [List.set_cons_succ]
theorem erase_perm : ∀ (l : List D) (i : Nat) (h : i < l.length), (l[i] :: l.eraseIdx i).Perm l
  | a :: l, 0, _ => .refl _
  | a :: l, i + 1, h => by
    have h' : i < l.length := by simpa using h
    exact (List.Perm.swap a l[i] _).trans ((erase_perm l i h').cons a)
theorem shuffled_w {b : Nat} {row : List D} (hl : row.length < 1000) (hb : R[b]? = some (.lst row)) (h : ∀ (got : List D) (g : Sto) (d' : DS), got.Perm row → Q (.ref (R.length + g.length + 2)) (d'.st (R ++ (g ++ [.lst got])))) : W (orc T (k + 2) 9 [.ref 1, .ref (b + 2)] (d.st R)) Q := by
  refine orc_w (ρ := [some (.ref 1), some (.ref (b + 2)), none, none, none]) rfl rfl rfl ?_
  show W (evSs _ b__law_shuffled _ _) _
  simp only [b__law_shuffled]
  have hq : (d.st R)[b + 2]? = some (.lst row) := hb
  have g1 : lstOf (d.st R) (.val (.ref (b + 2))) = some row := by simp only [lstOf, sqOf, lsOf, hq]
  mul_fits
  refine w_may g1 ?_
  mul_fits
  simp only [st_len, st_app]
  have hr1 : (d.st (R ++ [.lst row] ++ [.lst []]))[R.length + 2]? = some (.lst row) := st_mid
  have g2 : sqOf (d.st (R ++ [.lst row] ++ [.lst []])) (.val (.ref (R.length + 2))) = some row := by simp only [sqOf, lsOf, hr1]
  mul_fits
  rw [rgD0]
  refine loopS_w (fun ds ρ S' => ∃ (ks : List Nat) (left got : List D) (o4 : Option D) (d' : DS), ds = ks.map natD ∧ S' = d'.st (R ++ [.lst left] ++ [.lst got]) ∧ ρ = [some (.ref 1), some (.ref (b + 2)), some (.ref (R.length + 2)), some (.ref ((R ++ [Ob.lst row]).length + 2)), o4] ∧ left.length = ks.length ∧ (got ++ left).Perm row) ?_ ?_ _ _ _ ⟨List.range row.length, row, [], _, d, rfl, rfl, rfl, by simp, .refl _⟩
  · rintro e ds ρ S' ⟨ks, left, got, o4, d', hds, rfl, rfl, h1, h2⟩
    refine ⟨trivial, ?_⟩
    cases ks with
    | nil => exact absurd hds (by simp)
    | cons q ks =>
    rw [List.map_cons, List.cons.injEq] at hds
    obtain ⟨rfl, rfl⟩ := hds
    rw [List.length_cons] at h1
    have hgl : got.length + left.length = row.length := by rw [← List.length_append]; exact h2.length_eq
    simp only [b__law_shuffled_1]
    have k1 : ∀ d : DS, (d.st (R ++ [.lst left] ++ [.lst got]))[R.length + 2]? = some (.lst left) := fun d => st_mid
    have k2 : ∀ (d : DS) l, (d.st (R ++ [.lst l] ++ [.lst got]))[(R ++ [Ob.lst row]).length + 2]? = some (.lst got) := fun d l => by rw [st_get]; simp
    have g3 : sqOf (d'.st (R ++ [.lst left] ++ [.lst got])) (.val (.ref (R.length + 2))) = some left := by simp only [sqOf, lsOf, k1]
    mul_fits
    refine w_withL (k2 _ _) ?_
    mul_fits
    refine w_withL (k1 _) ?_
    mul_fits
    refine draw_ (m := (left.length : Int)) (by omega) (by omega) fun y d1 y0 y1 => ?_
    have hy : y.toNat < left.length := by omega
    have yb : -(2 ^ 63) ≤ y ∧ y < 2 ^ 63 := by constructor <;> omega
    refine v_popAt (k := y.toNat) (d := left[y.toNat]) (k1 d1) yb ?_ (by simp [hy]) ?_
    · have e0 : ¬ y < 0 := by omega
      show (if 0 ≤ (if y < 0 then y + (left.length : Int) else y) && decide ((if y < 0 then y + (left.length : Int) else y) < (left.length : Int)) then some (if y < 0 then y + (left.length : Int) else y).toNat else none) = some y.toNat
      rw [if_neg e0]
      simp [y0, y1]
    rw [st_set_mid]
    refine v_app (k2 _ _) (le_size (by omega)) ?_
    have se : (d1.st (R ++ [.lst (left.eraseIdx y.toNat)] ++ [.lst got])).set ((R ++ [Ob.lst row]).length + 2) (.lst (got ++ [left[y.toNat]])) = d1.st (R ++ [.lst (left.eraseIdx y.toNat)] ++ [.lst (got ++ [left[y.toNat]])]) := by
      rw [st_set]
      have := set_end (R ++ [Ob.lst (left.eraseIdx y.toNat)]) (.lst got) (.lst (got ++ [left[y.toNat]]))
      have e2 : (R ++ [Ob.lst row]).length = (R ++ [Ob.lst (left.eraseIdx y.toNat)]).length := by simp
      rw [e2, this]
    rw [se]
    mul_fits
    refine ⟨_, .inl rfl, ks, left.eraseIdx y.toNat, got ++ [left[y.toNat]], _, d1, rfl, rfl, rfl, ?_, ?_⟩
    · rw [List.length_eraseIdx, if_pos hy]
      omega
    · rw [List.append_assoc]
      refine List.Perm.trans ?_ h2
      refine List.Perm.append_left _ ?_
      exact erase_perm _ _ hy
  · rintro ρ S' ⟨ks, left, got, o4, d', hds, rfl, rfl, h1, h2⟩
    refine ⟨trivial, ?_⟩
    cases ks with
    | cons q ks => exact absurd hds (by simp)
    | nil =>
    have hl0 : left = [] := List.eq_nil_of_length_eq_zero h1
    subst hl0
    rw [List.append_nil] at h2
    mul_fits
    simp only [b__law_shuffled_2]
    mul_fits
    rw [gc_out (by simp [below, st_len])]
    have := h got [.lst []] d' h2
    rw [List.append_assoc, show (R ++ [Ob.lst row]).length + 2 = R.length + [Ob.lst ([] : List D)].length + 2 by simp]
    exact w_ok this
theorem cut_take {l : List D} {m : Nat} : PQ.cutD l none (some (m : Int)) = l.take m := by
  unfold PQ.cutD
  simp only [HT.sIx]
  rw [if_neg (by omega), List.drop_zero, Int.toNat_natCast, Nat.sub_zero]
  by_cases h : m ≤ l.length
  · rw [Nat.min_eq_left h]
  · rw [Nat.min_eq_right (by omega), List.take_length, List.take_of_length_le (by omega)]
theorem some_w {b m : Nat} {row : List D} (hl : row.length < 1000) (hb : R[b]? = some (.lst row)) (h : ∀ (full : List D) (g : Sto) (d' : DS), full.Perm row → Q (.ref (R.length + g.length + 2)) (d'.st (R ++ (g ++ [.lst (full.take m)])))) : W (orc T (k + 3) 10 [.ref 1, .ref (b + 2), .int (m : Int)] (d.st R)) Q := by
  refine orc_w (ρ := [some (.ref 1), some (.ref (b + 2)), some (.int (m : Int))]) rfl rfl rfl ?_
  show W (evSs _ b__law_some _ _) _
  simp only [b__law_some]
  mul_fits
  refine shuffled_w hl hb fun got g d' h1 => ?_
  have k1 : (d'.st (R ++ (g ++ [.lst got])))[R.length + g.length + 2]? = some (.lst got) := by
    rw [st_get, ← List.append_assoc, show R.length + g.length = (R ++ g).length by simp]
    exact get_end _ _
  mul_fits
  rw [cut_take, st_len, st_app, gc_out (by simp [below, st_len])]
  have := h got (g ++ [.lst got]) d' h1
  refine w_ok ?_
  have e1 : R ++ (g ++ [Ob.lst got]) ++ [Ob.lst (got.take m)] = R ++ (g ++ [Ob.lst got] ++ [Ob.lst (got.take m)]) := by simp
  have e2 : (R ++ (g ++ [Ob.lst got])).length + 2 = R.length + (g ++ [Ob.lst got]).length + 2 := by simp
  rw [e1, e2]
  exact this
theorem gc_st2 {d d' : DS} {R g : Sto} {e : D} {Q : D → Sto → Prop} (hb : below (R.length + 2) e) (h : Q e (d'.st R)) : W (gc (d.st R) e (d'.st (R ++ g))) Q := by
  unfold gc
  have sf : Safe (d.st R) e (d'.st (R ++ g)) := by
    refine ⟨hb, by simp [st_len], fun i o hi e2 => ?_⟩
    match i, hi, e2 with
    | 0, _, e2 =>
      right
      have : Ob.lst (d'.cells.map .int) = o := by simpa [DS.st] using e2
      subst this
      refine belows_iff.mpr fun x hx => ?_
      obtain ⟨q, _, rfl⟩ := List.mem_map.mp hx
      trivial
    | 1, _, e2 =>
      right
      have : Ob.lst [.ref 0, .int d'.p, .int d'.r, .int d'.s] = o := by simpa [DS.st] using e2
      subst this
      refine belows_iff.mpr fun x hx => ?_
      simp at hx
      rcases hx with rfl | rfl | rfl | rfl
      · show 0 < _
        simp [st_len]
      · trivial
      · trivial
      · trivial
    | i + 2, hi, e2 =>
      left
      rw [st_get] at e2 ⊢
      rw [st_len] at hi
      rwa [List.getElem?_append_left (by omega)] at e2
  rw [if_pos sf, W_ok]
  have : (d'.st (R ++ g)).take (d.st R).length = d'.st R := by
    show List.take (R.length + 2) (_ :: _ :: (R ++ g)) = _
    rw [List.take_succ_cons, List.take_succ_cons, List.take_left' rfl]
    rfl
  rw [this]
  exact h
theorem letter_w (h : ∀ (c : Nat) (d' : DS), c < 1114112 → Q (singD c) (d'.st R)) : W (orc T (k + 2) 12 [.ref 1] (d.st R)) Q := by
  refine orc_w (ρ := [some (.ref 1)]) rfl rfl rfl ?_
  show W (evSs _ b__law_letter _ _) _
  simp only [b__law_letter]
  mul_fits
  refine draw_ (by decide) (by decide) fun y d1 y0 y1 => ?_
  have q1 : Str.length "abcdefghijklmnopqrstuvwxyz" ≤ sizeLine := le64 (by decide)
  have hc : ∀ c ∈ (Str.cps "abcdefghijklmnopqrstuvwxyz").toList, c < 1114112 := by decide
  have hy : y.toNat < (Str.cps "abcdefghijklmnopqrstuvwxyz").toList.length := by
    have : (Str.cps "abcdefghijklmnopqrstuvwxyz").toList.length = 26 := by decide
    omega
  have k1 : atI (Str.cps "abcdefghijklmnopqrstuvwxyz").toList y = some ((Str.cps "abcdefghijklmnopqrstuvwxyz").toList[y.toNat]) := by
    unfold atI ixN
    rw [if_pos y0, if_pos (by omega)]
    simp only [List.getElem?_eq_getElem hy, Option.bind_some]
  refine v_idxS q1 k1 ?_
  mul_fits
  rw [gc_same (by rfl)]
  mul_fits
  exact h _ _ (hc _ (List.getElem_mem hy))
theorem own_web_w {b ar n t : Nat} {row : List D} (har : ar ≤ 3) (hn : n ≤ 500) (ht : t ≤ 1000) (h0 : 0 < row.length) (hl : row.length < 1000) (hb : R[b]? = some (.lst row)) (hlt : ∀ x ∈ row, Lt x) (h : ∀ (w : Wb) (d' : DS), w.Ok → w.Sk → w.ar = ar → w.cs.length = n → w.ts.length ≤ t → Q w.d (d'.st R)) : W (orc T (k + 3) 13 [.ref 1, .int (ar : Int), .int (n : Int), .int (t : Int), .ref (b + 2)] (d.st R)) Q := by
  refine orc_w (ρ := [some (.ref 1), some (.int (ar : Int)), some (.int (n : Int)), some (.int (t : Int)), some (.ref (b + 2)), none, none, none, none]) rfl rfl rfl ?_
  show W (evSs _ b__law_own_web _ _) _
  simp only [b__law_own_web]
  mul_fits
  simp only [st_len, st_app]
  have fin : ∀ (d' : DS) (acc : List Pt) (o7 o8 : Option D), acc.length ≤ t → (∀ p ∈ acc, p.one < p.other ∧ p.other < ar + n) → (∀ p ∈ acc, PyData.strOk p.strand = true) → W (evSs (orc T (k + 2)) b__law_own_web_2 [some (.ref 1), some (.int (ar : Int)), some (.int (n : Int)), some (.int (t : Int)), some (.ref (b + 2)), some (.int ((ar : Int) + (n : Int))), some (.ref (R.length + 2)), o7, o8] (d'.st (R ++ [.lst (acc.map Pt.d)]))) fun fl S1 => W (retK fl S1) fun x S' => W (gc (d.st R) x S') Q := by
    intro d' acc o7 o8 a1 a2 a3
    simp only [b__law_own_web_2]
    mul_fits
    refine ⟨by show (rgD 0 _).length ≤ sizeLine; rw [rgD0]; simp; exact le_size (by omega), ?_⟩
    refine loopQ_w (fun ds r S' => ∃ (l : List Nat) (d' : DS), r = l.map singD ∧ S' = d'.st (R ++ [.lst (acc.map Pt.d)]) ∧ l.length + ds.length = n ∧ ∀ c ∈ l, c < 1114112) ?_ ?_ _ _ ⟨[], d', rfl, rfl, by rw [rgD0]; simp, by simp⟩
    · rintro e ds r S' ⟨l, d', rfl, rfl, h1, h2⟩
      refine ⟨trivial, ?_⟩
      mul_fits
      refine letter_w fun c d2 hc => ?_
      mul_fits
      refine ⟨l ++ [c], d2, by simp, rfl, by simp at h1 ⊢; omega, fun x hx => ?_⟩
      rcases List.mem_append.mp hx with hx | hx
      · exact h2 x hx
      · simp at hx
        subst hx
        exact hc
    · rintro r S' ⟨l, d', rfl, rfl, h1, h2⟩
      refine ⟨trivial, ?_⟩
      have hll : l.length = n := by simpa using h1
      mul_fits
      refine w_may (strs_sing _) ?_
      refine w_ask ?_ ?_
      · rw [sum_ones]
        have : Str.length "" = 0 := by decide
        rw [this]
        omega
      rw [glued_sing]
      have k1 : (d'.st (R ++ [.lst (acc.map Pt.d)]))[R.length + 2]? = some (.lst (acc.map Pt.d)) := by rw [st_get]; exact get_end _ _
      have ls : lsOf (d'.st (R ++ [.lst (acc.map Pt.d)])) (.val (.ref (R.length + 2))) = some (acc.map Pt.d) := by simp only [lsOf, k1]
      mul_fits
      refine w_may ls ?_
      refine sort_pts ?_
      mul_fits
      have := h ⟨ar, l, srt acc⟩ d' ⟨fun p hp => ?_, srt_srt _, har⟩ ⟨h2, fun p hp => a3 p ((srt_perm _).mem_iff.mp hp)⟩ rfl hll (by rw [(srt_perm _).length_eq]; exact a1)
      · exact gc_st2 (below_wb ⟨ar, l, srt acc⟩) this
      · have := a2 p ((srt_perm _).mem_iff.mp hp)
        show p.one < p.other ∧ p.other < ar + l.length
        rw [hll]
        exact this
  mul_fits
  refine w_ifd (fun c => ?_) fun c => ?_
  · mul_fits
    rw [rgD_0]
    refine loopS_w (fun ds ρ S' => ∃ (c m : Nat) (acc : List Pt) (o7 o8 : Option D) (d' : DS), c + m = t ∧ ds = (List.range' c m).map natD ∧ S' = d'.st (R ++ [.lst (acc.map Pt.d)]) ∧ ρ = [some (.ref 1), some (.int (ar : Int)), some (.int (n : Int)), some (.int (t : Int)), some (.ref (b + 2)), some (.int ((ar : Int) + (n : Int))), some (.ref (R.length + 2)), o7, o8] ∧ acc.length = c ∧ (∀ p ∈ acc, p.one < p.other ∧ p.other < ar + n) ∧ (∀ p ∈ acc, PyData.strOk p.strand = true)) ?_ ?_ _ _ _ ⟨0, t, [], _, _, d, by omega, rfl, rfl, rfl, rfl, by simp, by simp⟩
    · rintro e ds ρ S' ⟨c', m, acc, o7, o8, d', hcm, hds, rfl, rfl, a1, a2, a3⟩
      refine ⟨trivial, ?_⟩
      cases m with
      | zero => exact absurd hds (by simp)
      | succ m =>
      rw [rg'_cons, List.map_cons, List.cons.injEq] at hds
      obtain ⟨rfl, rfl⟩ := hds
      simp only [b__law_own_web_1]
      have k1 : ∀ d : DS, (d.st (R ++ [.lst (acc.map Pt.d)]))[R.length + 2]? = some (.lst (acc.map Pt.d)) := fun d => by rw [st_get]; exact get_end _ _
      mul_fits
      refine draw_ (by omega) (by omega) fun one d2 o0 o1 => ?_
      obtain ⟨one, rfl⟩ := Int.eq_ofNat_of_zero_le o0
      mul_fits
      refine w_withL (k1 _) ?_
      mul_fits
      refine draw_ (by omega) (by omega) fun y d3 y0 y1 => ?_
      obtain ⟨y, rfl⟩ := Int.eq_ofNat_of_zero_le y0
      mul_fits
      refine pick_w h0 hl (get_pre hb) fun x hx d4 => ?_
      obtain ⟨c, hc, rfl⟩ := hlt x hx
      mul_fits
      refine v_app (k1 _) (by rw [List.length_map]; exact le_size (by omega)) ?_
      have se : ∀ l l' : List D, (d4.st (R ++ [.lst l])).set (R.length + 2) (.lst l') = d4.st (R ++ [.lst l']) := fun l l' => by rw [st_set, set_end]
      rw [se]
      mul_fits
      have e : (one : Int) + 1 + (y : Int) = ((one + 1 + y : Nat) : Int) := by omega
      rw [e]
      refine ⟨_, .inl rfl, c' + 1, m, acc ++ [⟨one, one + 1 + y, ⟨#[c]⟩⟩], _, _, d4, by omega, rfl, by rw [List.map_append]; rfl, rfl, by simp [a1], fun p hp => ?_, fun p hp => ?_⟩
      · rcases List.mem_append.mp hp with hp | hp
        · exact a2 p hp
        · simp at hp
          subst hp
          show one < one + 1 + y ∧ one + 1 + y < ar + n
          omega
      · rcases List.mem_append.mp hp with hp | hp
        · exact a3 p hp
        · simp at hp
          subst hp
          show PyData.strOk (stS [c]) = true
          exact stok (by simpa using hc)
    · rintro ρ S' ⟨c', m, acc, o7, o8, d', hcm, hds, rfl, rfl, a1, a2, a3⟩
      refine ⟨trivial, ?_⟩
      cases m with
      | succ m => exact absurd hds (by simp [rg'_cons])
      | zero =>
      mul_fits
      exact fin d' acc _ _ (by omega) a2 a3
  · mul_fits
    exact fin d [] none none (by simp) (by simp) (by simp)
theorem guest_w {b : Nat} {h : Wb} {row : List D} (hz : h.cs.length ≤ 5000) (h0 : 0 < row.length) (hl : row.length < 1000) (hb : R[b]? = some (.lst row)) (hlt : ∀ x ∈ row, Lt x) (hq : ∀ (g : Wb) (d' : DS), g.Ok → g.Sk → g.ar ≤ h.spots → Sz 5 8 g → Q g.d (d'.st R)) : W (orc T (k + 4) 15 [.ref 1, h.d, .ref (b + 2)] (d.st R)) Q := by
  refine orc_w (ρ := [some (.ref 1), some h.d, some (.ref (b + 2))]) rfl rfl rfl ?_
  show W (evSs _ b__law_guest _ _) _
  simp only [b__law_guest]
  mul_fits
  refine many_w hz ?_
  mul_fits
  refine draw_ (by split <;> omega) (by split <;> omega) fun ar d1 a0 a1 => ?_
  obtain ⟨ar, rfl⟩ := Int.eq_ofNat_of_zero_le a0
  have har : ar ≤ 3 ∧ ar ≤ h.spots := by
    split at a1 <;> omega
  mul_fits
  refine draw_ (by decide) (by decide) fun n d2 n0 n1 => ?_
  obtain ⟨n, rfl⟩ := Int.eq_ofNat_of_zero_le n0
  mul_fits
  refine draw_ (by decide) (by decide) fun t d3 t0 t1 => ?_
  obtain ⟨t, rfl⟩ := Int.eq_ofNat_of_zero_le t0
  mul_fits
  refine own_web_w har.1 (by omega) (by omega) h0 hl hb hlt fun w d4 w1 w2 w3 w4 w5 => ?_
  mul_fits
  rw [gc_same (by rfl)]
  exact w_ok (hq w d4 w1 w2 (by rw [w3]; exact har.2) ⟨by omega, by omega⟩)
theorem nats_of {l : List D} {i j : Int} (h : ∀ x ∈ l, x ∈ rgD i j) (hi : 0 ≤ i) : ∃ ps : List Nat, l = ps.map natD := by
  induction l with
  | nil => exact ⟨[], rfl⟩
  | cons x l ih =>
    obtain ⟨ps, rfl⟩ := ih fun y hy => h y (by simp [hy])
    obtain ⟨z, rfl, h1, h2⟩ := rgD_get (h x (by simp))
    obtain ⟨q, rfl⟩ := Int.eq_ofNat_of_zero_le (show 0 ≤ z by omega)
    exact ⟨q :: ps, rfl⟩
theorem nat_perm {ps qs : List Nat} (h : (ps.map natD).Perm (qs.map natD)) : ps.Perm qs := by
  have h2 := h.map fun d => match d with | D.int i => i.toNat | _ => 0
  simpa [List.map_map, Function.comp_def] using h2
theorem rgD_nat (i j : Nat) : rgD (i : Int) (j : Int) = (List.range' i (j - i)).map natD := by
  unfold rgD
  rw [show ((j : Int) - (i : Int)).toNat = j - i by omega, List.range'_eq_map_range, List.map_map]
  refine List.map_congr_left fun k _ => ?_
  simp
theorem places_w {h g : Wb} (hz : h.cs.length ≤ 900) (har : h.ar ≤ 3) (hg : g.ar ≤ h.spots) (hq : ∀ (pl : List Nat) (d' : DS), PlOk h pl g.ar → Q (.tup (pl.map natD)) (d'.st R)) : W (orc T (k + 4) 16 [.ref 1, h.d, g.d] (d.st R)) Q := by
  refine orc_w (ρ := [some (.ref 1), some h.d, some g.d]) rfl rfl rfl ?_
  show W (evSs _ b__law_places _ _) _
  simp only [b__law_places]
  have sp := h.sp
  mul_fits
  refine many_w (by omega) ?_
  have rgok : RgOk 0 (h.spots : Int) := by unfold RgOk; omega
  mul_fits
  simp only [st_len, st_app]
  have hrl : (rgD 0 (h.spots : Int)).length = h.spots := by rw [rgD0]; simp
  refine some_w (b := R.length) (row := rgD 0 (h.spots : Int)) (by rw [hrl]; omega) (get_end _ _) fun full g1 d1 hf => ?_
  obtain ⟨ps, rfl⟩ := nats_of (fun x hx => hf.mem_iff.mp hx) (by decide)
  rw [rgD0] at hf
  have hp := nat_perm hf
  have hpl : ps.length = h.spots := by rw [hp.length_eq, List.length_range]
  have hnd : ps.Nodup := hp.nodup_iff.mpr List.nodup_range
  rw [← List.map_take]
  have gg : (d1.st (R ++ [Ob.lst (rgD 0 (h.spots : Int))] ++ (g1 ++ [Ob.lst ((ps.take g.ar).map natD)])))[(R ++ [Ob.lst (rgD 0 (h.spots : Int))]).length + g1.length + 2]? = some (.lst ((ps.take g.ar).map natD)) := by
    rw [st_get, ← List.append_assoc _ g1, show (R ++ [Ob.lst (rgD 0 (h.spots : Int))]).length + g1.length = (R ++ [Ob.lst (rgD 0 (h.spots : Int))] ++ g1).length by simp; omega]
    exact get_end _ _
  have sq := show sqOf (d1.st (R ++ [Ob.lst (rgD 0 (h.spots : Int))] ++ (g1 ++ [Ob.lst ((ps.take g.ar).map natD)]))) (.val (.ref ((R ++ [Ob.lst (rgD 0 (h.spots : Int))]).length + g1.length + 2))) = some ((ps.take g.ar).map natD) by simp only [sqOf, lsOf, gg]
  mul_fits
  rw [List.append_assoc]
  refine gc_st2 ?_ (hq _ d1 ⟨by simp; omega, hnd.sublist (List.take_sublist _ _), fun x hx => List.mem_range.mp (hp.mem_iff.mp (List.mem_of_mem_take hx))⟩)
  show belows _ _
  refine belows_iff.mpr fun x hx => ?_
  obtain ⟨q, _, rfl⟩ := List.mem_map.mp hx
  trivial
theorem below_im {im : Nat → Nat} {N n : Nat} : below n (imD im N) := by
  show belows _ _
  refine belows_iff.mpr fun x hx => ?_
  obtain ⟨q, _, rfl⟩ := List.mem_map.mp hx
  trivial
/-- a list of the spots, joints first, is a renumbering -/
theorem bij_list {ar n : Nat} {l : List Nat} (hl : l.length = ar + n) (hnd : l.Nodup) (h1 : ∀ q, q < ar → l.getD q 0 = q) (h2 : ∀ q, ar ≤ q → q < ar + n → ar ≤ l.getD q 0 ∧ l.getD q 0 < ar + n) (hmem : ∀ q, q < ar + n → q ∈ l) : Bij (fun q => l.getD q 0) (fun q => l.idxOf q) ar n := by
  have back : ∀ q, q < ar + n → l.idxOf (l.getD q 0) = q := fun q hq => by
    have e : l.getD q 0 = l[q] := by simp [List.getD, hl, hq]
    rw [e]
    exact List.Nodup.idxOf_getElem hnd q (by omega)
  have forth : ∀ q, q < ar + n → l.idxOf q < ar + n ∧ l.getD (l.idxOf q) 0 = q := fun q hq => by
    have hi := List.idxOf_lt_length_iff.mpr (hmem q hq)
    refine ⟨by omega, ?_⟩
    have e : l.getD (l.idxOf q) 0 = l[l.idxOf q] := by simp [List.getD, hi]
    rw [e]
    simp
  refine ⟨h1, fun q hq => ?_, fun q ha hb => ⟨(h2 q ha hb).1, (h2 q ha hb).2, back q hb⟩, fun q ha hb => ?_⟩
  · have := back q (by omega)
    rw [h1 q hq] at this
    exact this
  · obtain ⟨f1, f2⟩ := forth q hb
    refine ⟨?_, f1, f2⟩
    refine Nat.le_of_not_lt fun hlt => ?_
    try dsimp only at hlt
    rw [h1 _ hlt] at f2
    omega
theorem images_w {w : Wb} (hz : w.cs.length ≤ 900) (har : w.ar ≤ 3) (hq : ∀ (im inv : Nat → Nat) (d' : DS), Bij im inv w.ar w.cs.length → Q (imD im w.spots) (d'.st R)) : W (orc T (k + 3) 19 [.ref 1, w.d] (d.st R)) Q := by
  refine orc_w (ρ := [some (.ref 1), some w.d]) rfl rfl rfl ?_
  show W (evSs _ b__law_images _ _) _
  simp only [b__law_images]
  have sp := w.sp
  have rgok1 : RgOk 0 (w.ar : Int) := by unfold RgOk; omega
  mul_fits
  refine many_w (by omega) ?_
  have rgok2 : RgOk (w.ar : Int) (w.spots : Int) := by unfold RgOk; omega
  mul_fits
  simp only [st_len, st_app]
  have en : w.spots - w.ar = w.cs.length := by omega
  have hrl : (rgD (w.ar : Int) (w.spots : Int)).length = w.cs.length := by rw [rgD_nat]; simp
  refine shuffled_w (b := R.length) (row := rgD (w.ar : Int) (w.spots : Int)) (by rw [hrl]; omega) (get_end _ _) fun got g1 d1 hf => ?_
  obtain ⟨ps, rfl⟩ := nats_of (fun x hx => hf.mem_iff.mp hx) (by omega)
  rw [rgD_nat, en] at hf
  have hp := nat_perm hf
  have hpl : ps.length = w.cs.length := by rw [hp.length_eq, List.length_range']
  have hnd : ps.Nodup := hp.nodup_iff.mpr List.nodup_range'
  have hpm : ∀ x, x ∈ ps ↔ w.ar ≤ x ∧ x < w.ar + w.cs.length := fun x => by
    rw [hp.mem_iff, List.mem_range'_1]
  have gg : (d1.st (R ++ [Ob.lst (rgD (w.ar : Int) (w.spots : Int))] ++ (g1 ++ [Ob.lst (ps.map natD)])))[(R ++ [Ob.lst (rgD (w.ar : Int) (w.spots : Int))]).length + g1.length + 2]? = some (.lst (ps.map natD)) := by
    rw [st_get, ← List.append_assoc _ g1, show (R ++ [Ob.lst (rgD (w.ar : Int) (w.spots : Int))]).length + g1.length = (R ++ [Ob.lst (rgD (w.ar : Int) (w.spots : Int))] ++ g1).length by simp; omega]
    exact get_end _ _
  have tr := show trOf (d1.st (R ++ [Ob.lst (rgD (w.ar : Int) (w.spots : Int))] ++ (g1 ++ [Ob.lst (ps.map natD)]))) (.val (.ref ((R ++ [Ob.lst (rgD (w.ar : Int) (w.spots : Int))]).length + g1.length + 2))) = some (ps.map natD) by simp only [trOf, gg]
  mul_fits
  refine w_may tr ?_
  refine w_ask (by rw [rgD0]; simp; exact le_size (by omega)) ?_
  mul_fits
  have bj : Bij (fun q => (List.range w.ar ++ ps).getD q 0) (fun q => (List.range w.ar ++ ps).idxOf q) w.ar w.cs.length := by
    refine bij_list (by simp [hpl]) ?_ (fun q hq => ?_) (fun q ha hb => ?_) (fun q hq => ?_)
    · refine List.nodup_append.mpr ⟨List.nodup_range, hnd, fun a ha b hb e => ?_⟩
      have := List.mem_range.mp ha
      have := (hpm b).mp hb
      omega
    · rw [gd_app, if_pos (by simp; exact hq)]
      simp [List.getD, hq]
    · rw [gd_app, if_neg (by simp; omega), List.length_range]
      have e : ps.getD (q - w.ar) 0 = ps[q - w.ar] := by
        have : q - w.ar < ps.length := by omega
        simp [List.getD, this]
      rw [e]
      exact (hpm _).mp (List.getElem_mem _)
    · rw [List.mem_append, List.mem_range, hpm]
      omega
  have ei : D.tup (rgD 0 (w.ar : Int) ++ ps.map natD) = imD (fun q => (List.range w.ar ++ ps).getD q 0) w.spots := by
    unfold imD
    congr 1
    rw [rgD0, ← List.map_append]
    refine List.ext_getElem (by simp [hpl]) fun i h1 h2 => ?_
    have hi : i < (List.range w.ar ++ ps).length := by simpa using h1
    have e : (List.range w.ar ++ ps).getD i 0 = (List.range w.ar ++ ps)[i] := by simp only [List.getD, List.getElem?_eq_getElem hi, Option.getD_some]
    rw [List.getElem_map, List.getElem_map, List.getElem_range]
    show natD _ = natD ((List.range w.ar ++ ps).getD i 0)
    rw [e]
  rw [ei, List.append_assoc]
  exact gc_st2 below_im (hq _ _ d1 bj)
end
/-! ### orders, turns -/
theorem comp_nat {C : Orc} {ρ : En} {S : Sto} {own : List Nat} {v n : Nat} {e : CE} {f : Nat → Nat} {QQ : List D → Sto → Prop}
    (he : ∀ (j : Nat) (Q' : D → Sto → Prop), j < n → Q' (natD (f j)) S → W (evE C e ((wipeE ρ own).set v (some (natD j))) S) Q')
    (h : QQ ((List.range n).map fun c => natD (f c)) S) : W (loopQ (Itv.still ⟨rgD 0 (n : Int), none⟩) (fun d S2 => may (bindN (.nm v) d (wipeE ρ own) S2) fun ρ' => (evE C e ρ' S2).bind fun x S3 => .ok (some x) S3) (rgD 0 (n : Int)) S) QQ := by
  refine loopQ_w (fun ds r S' => S' = S ∧ ∃ c m, c + m = n ∧ ds = (List.range' c m).map natD ∧ r = (List.range c).map fun c => natD (f c)) ?_ ?_ _ _ ⟨rfl, 0, n, by omega, rgD_0 n, rfl⟩
  · rintro d ds r S' ⟨rfl, c, m, hcm, hds, rfl⟩
    refine ⟨trivial, ?_⟩
    cases m with
    | zero => exact absurd hds (by simp)
    | succ m =>
    rw [rg'_cons, List.map_cons, List.cons.injEq] at hds
    obtain ⟨rfl, rfl⟩ := hds
    show W (Res.bind _ _) _
    refine w_bind (he c _ (by omega) (w_ok ⟨rfl, c + 1, m, by omega, rfl, ?_⟩))
    rw [List.range_succ, List.map_append]
    rfl
  · rintro r S' ⟨rfl, c, m, hcm, hds, rfl⟩
    refine ⟨trivial, ?_⟩
    cases m with
    | succ m => exact absurd hds (by simp [rg'_cons])
    | zero =>
    have hc : c = n := by omega
    subst hc
    exact h
/-- .. over numbers that stand in a tuple -/
theorem comp_nums {C : Orc} {ρ : En} {S : Sto} {own : List Nat} {v : Nat} {e : CE} {f : Nat → Nat} {l : List Nat} {QQ : List D → Sto → Prop}
    (he : ∀ (x : Nat) (Q' : D → Sto → Prop), x ∈ l → Q' (natD (f x)) S → W (evE C e ((wipeE ρ own).set v (some (natD x))) S) Q')
    (h : QQ ((l.map f).map natD) S) : W (loopQ (Itv.still ⟨l.map natD, none⟩) (fun d S2 => may (bindN (.nm v) d (wipeE ρ own) S2) fun ρ' => (evE C e ρ' S2).bind fun x S3 => .ok (some x) S3) (l.map natD) S) QQ := by
  refine loopQ_w (fun ds r S' => S' = S ∧ ∃ m : List Nat, ds = m.map natD ∧ (∀ x ∈ m, x ∈ l) ∧ r ++ (m.map f).map natD = (l.map f).map natD) ?_ ?_ _ _ ⟨rfl, l, rfl, fun _ h => h, rfl⟩
  · rintro d ds r S' ⟨rfl, m, hds, hm, hr⟩
    refine ⟨trivial, ?_⟩
    cases m with
    | nil => exact absurd hds (by simp)
    | cons x m =>
    rw [List.map_cons, List.cons.injEq] at hds
    obtain ⟨rfl, rfl⟩ := hds
    show W (Res.bind _ _) _
    refine w_bind (he x _ (hm x (by simp)) (w_ok ⟨rfl, m, rfl, fun y hy => hm y (by simp [hy]), ?_⟩))
    rw [← hr]
    simp
  · rintro r S' ⟨rfl, m, hds, hm, hr⟩
    refine ⟨trivial, ?_⟩
    cases m with
    | cons x m => exact absurd hds (by simp)
    | nil =>
    simp only [List.map_nil, List.append_nil] at hr
    subst hr
    exact h
theorem range_split (f : Nat → D) (a : Nat) : ∀ b, (List.range (a + b)).map f = (List.range a).map f ++ (List.range b).map fun c => f (a + c)
  | 0 => by simp
  | b + 1 => by
    rw [show a + (b + 1) = a + b + 1 by omega, List.range_succ, List.map_append, range_split f a b, List.range_succ, List.map_append, List.append_assoc]
    rfl
theorem PlOk.glu {h g : Wb} {p pl : List Nat} {a : Nat} (o : PlOk h pl a) : PlOk (glu h p g) pl a := ⟨o.len, o.nd, fun x hx => by
  have := o.lt x hx
  rw [glu_spots]
  omega⟩
section
variable {k : Nat} {R : Sto} {Q : D → Sto → Prop} {d : DS} {h : Wb} {b : Nat} {row : List D}
theorem orders_w (ok : h.Ok) (s : h.Sk) (z : Sz 10 10 h) (h0 : 0 < row.length) (hl : row.length < 1000) (hb : R[b]? = some (.lst row)) (hlt : ∀ x ∈ row, Lt x) (hq : ∀ d' : DS, Q (.bl true) (d'.st R)) : W (orc T (k + 6) 26 [.ref 1, h.d, .ref (b + 2)] (d.st R)) Q := by
  refine orc_w (ρ := [some (.ref 1), some h.d, some (.ref (b + 2)), none, none, none, none, none, none, none, none, none, none, none, none, none]) rfl rfl rfl ?_
  show W (evSs _ b__law_orders_hold _ _) _
  simp only [b__law_orders_hold]
  obtain ⟨z1, z2⟩ := z
  have har := ok.arl
  have sp := h.sp
  mul_fits
  refine guest_w (by omega) h0 hl hb hlt fun g1 d1 ok1 s1 ar1 zz1 => ?_
  mul_fits
  refine guest_w (by omega) h0 hl hb hlt fun g2 d2 ok2 s2 ar2 zz2 => ?_
  obtain ⟨c1, t1⟩ := zz1
  obtain ⟨c2, t2⟩ := zz2
  have sp1 := g1.sp
  have sp2 := g2.sp
  mul_fits
  refine places_w (by omega) har ar1 fun p1 d3 o1 => ?_
  mul_fits
  refine places_w (by omega) har ar2 fun p2 d4 o2 => ?_
  mul_fits
  refine glue_holds_w ok ok1 s s1 o1 ⟨by omega, by omega⟩ ⟨by omega, by omega⟩ ?_
  mul_fits
  refine glue_holds_w ok ok2 s s2 o2 ⟨by omega, by omega⟩ ⟨by omega, by omega⟩ ?_
  mul_fits
  simp only [b__law_orders_hold_1]
  have okA := glu_ok ok ok1 o1
  have okB := glu_ok ok ok2 o2
  have skA : (glu h p1 g1).Sk := glu_sk s s1
  have skB : (glu h p2 g2).Sk := glu_sk s s2
  have szA := glu_sz (pl := p1) (show Sz 10 10 h from ⟨z1, z2⟩) (show Sz 5 8 g1 from ⟨c1, t1⟩)
  have szB := glu_sz (pl := p2) (show Sz 10 10 h from ⟨z1, z2⟩) (show Sz 5 8 g2 from ⟨c2, t2⟩)
  have szA1 := szA.1
  have szA2 := szA.2
  have szB1 := szB.1
  have szB2 := szB.2
  mul_fits
  refine glue_w ok ok1 o1 (by omega) (by omega) ?_
  mul_fits
  refine glue_w okA ok2 o2.glu (by omega) (by omega) ?_
  mul_fits
  refine lglued_w ok ok2 o2 (by omega) (by omega) ?_
  mul_fits
  refine lglued_w okB ok1 o1.glu (by omega) (by omega) ?_
  mul_fits
  refine many_w (by omega) ?_
  have rgok : RgOk 0 (h.spots : Int) := by unfold RgOk; omega
  have q1 : (stS g1.cs).length ≤ sizeLine := by rw [st_length]; exact le_size (by omega)
  have q2 : (stS g2.cs).length ≤ sizeLine := by rw [st_length]; exact le_size (by omega)
  mul_fits
  rw [st_length]
  mul_fits
  refine ⟨by show (rgD 0 _).length ≤ sizeLine; rw [rgD0]; simp; exact le_size (by omega), ?_⟩
  refine comp_nat (f := fun c => h.spots + g2.cs.length + c) (fun j Q' hj hqq => ?_) ?_
  · mul_fits
    rw [st_length]
    mul_fits
    exact hqq
  mul_fits
  refine w_ask (by rw [rgD0]; simp; exact le_size (by omega)) ?_
  mul_fits
  simp only [st_len, st_app]
  have tr := show trOf (d4.st (R ++ [Ob.lst (rgD 0 (h.spots : Int) ++ (List.range g1.cs.length).map fun c => natD (h.spots + g2.cs.length + c))])) (.val (.ref (R.length + 2))) = some (rgD 0 (h.spots : Int) ++ (List.range g1.cs.length).map fun c => natD (h.spots + g2.cs.length + c)) by
    have : (d4.st (R ++ [Ob.lst (rgD 0 (h.spots : Int) ++ (List.range g1.cs.length).map fun c => natD (h.spots + g2.cs.length + c))]))[R.length + 2]? = some (.lst (rgD 0 (h.spots : Int) ++ (List.range g1.cs.length).map fun c => natD (h.spots + g2.cs.length + c))) := by rw [st_get]; exact get_end _ _
    simp only [trOf, this]
  rw [st_length]
  mul_fits
  refine ⟨by show (rgD 0 _).length ≤ sizeLine; rw [rgD0]; simp; exact le_size (by omega), ?_⟩
  refine comp_nat (f := fun c => h.spots + c) (fun j Q' hj hqq => ?_) ?_
  · mul_fits
    exact hqq
  mul_fits
  refine w_may tr ?_
  mul_fits
  refine w_ask (by rw [rgD0]; simp; exact le_size (by omega)) ?_
  mul_fits
  have eB : (glu (glu h p1 g1) p2 g2).spots = h.spots + g1.cs.length + g2.cs.length := by rw [glu_spots, glu_spots]
  have ei : D.tup (rgD 0 (h.spots : Int) ++ ((List.range g1.cs.length).map fun c => natD (h.spots + g2.cs.length + c)) ++ (List.range g2.cs.length).map fun c => natD (h.spots + c)) = imD (imO h.spots g1.cs.length g2.cs.length) (glu (glu h p1 g1) p2 g2).spots := by
    rw [eB]
    unfold imD
    congr 1
    rw [range_split _ (h.spots + g1.cs.length), range_split _ h.spots, rgD0]
    congr 1
    · congr 1
      · refine List.map_congr_left fun q hq => ?_
        have := List.mem_range.mp hq
        unfold imO
        rw [if_pos this]
      · refine List.map_congr_left fun q hq => ?_
        have := List.mem_range.mp hq
        unfold imO
        rw [if_neg (by omega), if_pos (by omega)]
        exact congrArg natD (by omega)
    · refine List.map_congr_left fun q hq => ?_
      have := List.mem_range.mp hq
      unfold imO
      rw [if_neg (by omega), if_neg (by omega)]
      exact congrArg natD (by omega)
  rw [ei]
  have hcl : (glu (glu h p1 g1) p2 g2).cs.length = h.cs.length + g1.cs.length + g2.cs.length := by
    show (h.cs ++ g1.cs ++ g2.cs).length = _
    simp
    omega
  have bj : Bij (imO h.spots g1.cs.length g2.cs.length) (imO h.spots g2.cs.length g1.cs.length) (glu (glu h p1 g1) p2 g2).ar (glu (glu h p1 g1) p2 g2).cs.length := by
    rw [hcl]
    exact bij_O sp
  have szC := glu_sz (pl := p2) szA (show Sz 5 8 g2 from ⟨c2, t2⟩)
  have szC1 := szC.1
  have szC2 := szC.2
  have szD := glu_sz (pl := p1) szB (show Sz 5 8 g1 from ⟨c1, t1⟩)
  have szD2 := szD.2
  refine renumber_w bj (glu_ok okA ok2 o2.glu) (by omega) (by omega) ?_
  mul_fits
  rw [orders ok ok1 ok2 o1 o2]
  refine is_web_w (glu_sk skB s1) (by omega) ?_
  mul_fits
  simp only [b__law_orders_hold_2]
  have hb' : ∀ g, (R ++ g)[b]? = some (.lst row) := fun g => get_pre hb
  mul_fits
  refine guest_w (by omega) h0 hl (hb' _) hlt fun g3 d5 ok3 s3 ar3 zz3 => ?_
  obtain ⟨c3, t3⟩ := zz3
  have har2 := ok2.arl
  mul_fits
  refine places_w (by omega) har2 ar3 fun p3 d6 o3 => ?_
  have h2l := o2.len
  have h3l := o3.len
  have har3 := ok3.arl
  mul_fits
  refine ⟨by show (p3.map natD).length ≤ sizeLine; rw [List.length_map]; exact le_size (by omega), ?_⟩
  refine comp_nums (f := fun q => if q < g2.ar then p2.getD q 0 else h.spots + q - g2.ar) (fun x Q' hx hqq => ?_) ?_
  · have hx2 := o3.lt x hx
    mul_fits
    refine w_ifd (fun c => ?_) fun c => ?_
    · have hc : x < g2.ar := by omega
      have a1 : atI (p2.map natD) (x : Int) = some (natD (p2.getD x 0)) := by
        rw [at_map _ _ _ (by omega)]
        simp [List.getD, h2l, hc]
      rw [if_pos hc] at hqq
      mul_fits
      exact hqq
    · have hc : ¬ x < g2.ar := by omega
      rw [if_neg hc] at hqq
      mul_fits
      have e : (h.spots : Int) + (x : Int) - (g2.ar : Int) = ((h.spots + x - g2.ar : Nat) : Int) := by omega
      rw [e]
      exact hqq
  mul_fits
  have oo := outer_ok o2 o3
  have szB3 := glu_sz (pl := p3) (show Sz 5 8 g2 from ⟨c2, t2⟩) (show Sz 5 8 g3 from ⟨c3, t3⟩)
  have szB31 := szB3.1
  have szB32 := szB3.2
  have szE := glu_sz (pl := outer p2 p3 g2.ar h.spots) szB (show Sz 5 8 g3 from ⟨c3, t3⟩)
  have szE2 := szE.2
  refine lglued_w ok ok2 o2 (by omega) (by omega) ?_
  mul_fits
  refine lglued_w okB ok3 oo (by omega) (by omega) ?_
  mul_fits
  refine glue_w ok2 ok3 o3 (by omega) (by omega) ?_
  mul_fits
  refine glue_w ok (glu_ok ok2 ok3 o3) o2 (by omega) (by omega) ?_
  mul_fits
  rw [nested ok ok2 ok3 o2 o3]
  refine is_web_w (glu_sk skB s3) (by omega) ?_
  mul_fits
  exact gc_st2 (by simp [below]) (hq d6)
theorem turned_w (ok : h.Ok) (s : h.Sk) (z : Sz 10 10 h) (h0 : 0 < row.length) (hl : row.length < 1000) (hb : R[b]? = some (.lst row)) (hlt : ∀ x ∈ row, Lt x) (hq : ∀ d' : DS, Q (.bl true) (d'.st R)) : W (orc T (k + 6) 27 [.ref 1, h.d, .ref (b + 2)] (d.st R)) Q := by
  refine orc_w (ρ := [some (.ref 1), some h.d, some (.ref (b + 2)), none, none, none, none, none, none, none, none, none]) rfl rfl rfl ?_
  show W (evSs _ b__law_turned_holds _ _) _
  simp only [b__law_turned_holds]
  obtain ⟨z1, z2⟩ := z
  have har := ok.arl
  have sp := h.sp
  mul_fits
  refine guest_w (by omega) h0 hl hb hlt fun g d1 ok1 s1 ar1 zz1 => ?_
  obtain ⟨c1, t1⟩ := zz1
  mul_fits
  refine places_w (by omega) har ar1 fun pl d2 o => ?_
  mul_fits
  refine images_w (by omega) har fun im inv d3 bj => ?_
  mul_fits
  refine many_w (by omega) ?_
  have q1 : (stS g.cs).length ≤ sizeLine := by rw [st_length]; exact le_size (by omega)
  mul_fits
  rw [st_length]
  mul_fits
  refine ⟨by show (rgD 0 _).length ≤ sizeLine; rw [rgD0]; simp; exact le_size (by omega), ?_⟩
  refine comp_nat (f := fun c => h.spots + c) (fun j Q' hj hqq => ?_) ?_
  · mul_fits
    exact hqq
  mul_fits
  have eB : (glu h pl g).spots = h.spots + g.cs.length := glu_spots
  refine v_addT (by simp; exact le_size (by omega)) ?_
  have ei : D.tup (((List.range h.spots).map fun q => natD (im q)) ++ (List.range g.cs.length).map fun c => natD (h.spots + c)) = imD (imL im h.spots) (glu h pl g).spots := by
    rw [eB]
    unfold imD
    congr 1
    rw [range_split _ h.spots]
    congr 1
    · refine List.map_congr_left fun q hq => ?_
      have := List.mem_range.mp hq
      unfold imL
      rw [if_pos this]
    · refine List.map_congr_left fun q hq => ?_
      unfold imL
      rw [if_neg (by omega)]
  rw [ei]
  have hcl : (glu h pl g).cs.length = h.cs.length + g.cs.length := by
    show (h.cs ++ g.cs).length = _
    simp
  have bl : Bij (imL im h.spots) (imL inv h.spots) (glu h pl g).ar (glu h pl g).cs.length := by
    rw [hcl]
    exact bij_L bj
  have okA := glu_ok ok ok1 o
  have skA : (glu h pl g).Sk := glu_sk s s1
  have szA := glu_sz (pl := pl) (show Sz 10 10 h from ⟨z1, z2⟩) (show Sz 5 8 g from ⟨c1, t1⟩)
  have szA1 := szA.1
  have szA2 := szA.2
  mul_fits
  refine lglued_w ok ok1 o (by omega) (by omega) ?_
  mul_fits
  refine lrenumbered_w bl okA (by omega) (by omega) ?_
  have hpl := o.len
  have harg := ok1.arl
  mul_fits
  refine ⟨by show (pl.map natD).length ≤ sizeLine; rw [List.length_map]; exact le_size (by omega), ?_⟩
  refine comp_nums (f := im) (fun x Q' hx hqq => ?_) ?_
  · have hx2 := o.lt x hx
    have a1 : atI ((List.range h.spots).map fun q => natD (im q)) (x : Int) = some (natD (im x)) := at_some (by rw [List.getElem?_map, List.getElem?_range hx2]; rfl)
    unfold imD
    mul_fits
    exact hqq
  mul_fits
  have okR := ren_ok bj ok
  have skR := ren_sk bj s
  have szR := ren_sz (im := im) (show Sz 10 10 h from ⟨z1, z2⟩)
  have szR1 := szR.1
  have szR2 := szR.2
  have szG := ren_sz (im := imL im h.spots) szA
  have szG2 := szG.2
  refine renumber_w bj ok (by omega) (by omega) ?_
  mul_fits
  refine glue_w okR ok1 (turned_pl bj o) (by omega) (by omega) ?_
  mul_fits
  rw [turned bj ok ok1 o]
  refine is_web_w (ren_sk bl skA) (by omega) ?_
  mul_fits
  simp only [b__law_turned_holds_1]
  mul_fits
  refine glue_w ok ok1 o (by omega) (by omega) ?_
  mul_fits
  refine renumber_w bl okA (by omega) (by omega) ?_
  mul_fits
  refine is_web_w (ren_sk bl skA) (by omega) ?_
  mul_fits
  rw [gc_same (by rfl)]
  exact w_ok (hq d3)
end
/-! ### large webs; the law -/
/-- an asking: a host, places, a guest -/
structure Ak where
  h : Wb
  pl : List Nat
  g : Wb
structure Ak.Ok (a : Ak) : Prop where
  h1 : a.h.Ok
  h2 : a.h.Sk
  h3 : Sz 40 60 a.h
  g1 : a.g.Ok
  g2 : a.g.Sk
  g3 : Sz 5 8 a.g
  o : PlOk a.h a.pl a.g.ar
abbrev Ak.d (a : Ak) : D := .tup [a.h.d, .tup (a.pl.map natD), a.g.d]
section
variable {k : Nat} {R : Sto} {Q : D → Sto → Prop} {d : DS} {h : Wb} {b : Nat} {row : List D}
/-- a rotation of the inner spots -/
def rot (ar f n : Nat) : List Nat := List.range ar ++ (List.range' f (ar + n - f) ++ List.range' ar (f - ar))
theorem rot_bij {ar f n : Nat} (h1 : ar ≤ f) (h2 : f < ar + n) : Bij (fun q => (rot ar f n).getD q 0) (fun q => (rot ar f n).idxOf q) ar n := by
  have e1 : ∀ q, q < ar → (rot ar f n).getD q 0 = q := fun q hq => by
    unfold rot
    rw [gd_app, if_pos (by simp; exact hq)]
    simp [List.getD, hq]
  have e2 : ∀ q, ar ≤ q → q < ar + n → (rot ar f n).getD q 0 = if q - ar < ar + n - f then f + (q - ar) else ar + (q - ar - (ar + n - f)) := fun q ha hb => by
    unfold rot
    rw [gd_app, if_neg (by simp; omega), gd_app, List.length_range, List.length_range']
    split
    · simp [List.getD, List.getElem?_range', ‹q - ar < ar + n - f›]
    · have : q - ar - (ar + n - f) < f - ar := by omega
      simp [List.getD, List.getElem?_range', this]
  refine bij_list (by simp [rot]; omega) ?_ e1 (fun q ha hb => ?_) (fun q hq => ?_)
  · unfold rot
    refine List.nodup_append.mpr ⟨List.nodup_range, List.nodup_append.mpr ⟨List.nodup_range', List.nodup_range', fun a ha b hb e => ?_⟩, fun a ha b hb e => ?_⟩
    · rw [List.mem_range'_1] at ha hb
      omega
    · rw [List.mem_range] at ha
      rcases List.mem_append.mp hb with hb | hb
      · rw [List.mem_range'_1] at hb
        omega
      · rw [List.mem_range'_1] at hb
        omega
  · rw [e2 q ha hb]
    split <;> omega
  · unfold rot
    rw [List.mem_append, List.mem_append, List.mem_range, List.mem_range'_1, List.mem_range'_1]
    omega
theorem rot_im {ar f n : Nat} (h1 : ar ≤ f) (h2 : f < ar + n) : D.tup (rgD 0 (ar : Int) ++ rgD (f : Int) ((ar + n : Nat) : Int) ++ rgD (ar : Int) (f : Int)) = imD (fun q => (rot ar f n).getD q 0) (ar + n) := by
  unfold imD
  congr 1
  rw [rgD0, rgD_nat, rgD_nat, List.append_assoc]
  have hl : (rot ar f n).length = ar + n := by simp [rot]; omega
  have e : (rot ar f n).map natD = (List.range ar).map (fun k => natD k) ++ ((List.range' f (ar + n - f)).map natD ++ (List.range' ar (f - ar)).map natD) := by
    unfold rot
    rw [List.map_append, List.map_append]
  rw [← e]
  refine List.ext_getElem (by simp [hl]) fun i h3 h4 => ?_
  have hi : i < (rot ar f n).length := by simpa using h3
  have e2 : (rot ar f n).getD i 0 = (rot ar f n)[i] := by simp only [List.getD, List.getElem?_eq_getElem hi, Option.getD_some]
  rw [List.getElem_map, List.getElem_map, List.getElem_range]
  show natD _ = natD ((rot ar f n).getD i 0)
  rw [e2]
theorem large_w (h0 : 0 < row.length) (hl : row.length < 1000) (hb : R[b]? = some (.lst row)) (hlt : ∀ x ∈ row, Lt x) (hq : ∀ d' : DS, Q (.bl true) (d'.st R)) : W (orc T (k + 6) 28 [.ref 1, .ref (b + 2)] (d.st R)) Q := by
  refine orc_w (ρ := [some (.ref 1), some (.ref (b + 2)), none, none, none, none, none, none, none]) rfl rfl rfl ?_
  show W (evSs _ b__law_large_holds _ _) _
  simp only [b__law_large_holds]
  mul_fits
  refine draw_ (by decide) (by decide) fun ar d1 a0 a1 => ?_
  obtain ⟨ar, rfl⟩ := Int.eq_ofNat_of_zero_le a0
  mul_fits
  refine draw_ (by decide) (by decide) fun n d2 n0 n1 => ?_
  mul_fits
  refine draw_ (by decide) (by decide) fun t d3 t0 t1 => ?_
  obtain ⟨n', hn'⟩ : ∃ n' : Nat, 340 - n = (n' : Int) := ⟨(340 - n).toNat, by omega⟩
  obtain ⟨t', ht'⟩ : ∃ t' : Nat, 700 - t = (t' : Int) := ⟨(700 - t).toNat, by omega⟩
  mul_fits
  rw [hn', ht']
  refine own_web_w (by omega) (by omega) (by omega) h0 hl hb hlt fun h d4 ok s e1 e2 e3 => ?_
  have har := ok.arl
  have sp := h.sp
  mul_fits
  refine draw_ (by decide) (by decide) fun ar2 d5 b0 b1 => ?_
  obtain ⟨ar2, rfl⟩ := Int.eq_ofNat_of_zero_le b0
  mul_fits
  refine own_web_w (n := 60) (t := 100) (by omega) (by decide) (by decide) h0 hl hb hlt fun g d6 ok1 s1 f1 f2 f3 => ?_
  have sp1 := g.sp
  mul_fits
  refine places_w (by omega) har (by omega) fun pl d7 o => ?_
  mul_fits
  refine glue_holds_w ok ok1 s s1 o ⟨by omega, by omega⟩ ⟨by omega, by omega⟩ ?_
  mul_fits
  simp only [b__law_large_holds_1]
  mul_fits
  refine lglued_w ok ok1 o (by omega) (by omega) ?_
  have okA := glu_ok ok ok1 o
  have skA : (glu h pl g).Sk := glu_sk s s1
  have szA := glu_sz (pl := pl) (show Sz 340 700 h from ⟨by omega, by omega⟩) (show Sz 60 100 g from ⟨by omega, by omega⟩)
  have szA1 := szA.1
  have szA2 := szA.2
  have hcl : (glu h pl g).cs.length = h.cs.length + g.cs.length := by
    show (h.cs ++ g.cs).length = _
    simp
  have hplt : ∀ x ∈ pl, x < h.spots := o.lt
  have hpl := o.len
  have harA := okA.arl
  generalize glu h pl g = w at okA skA szA1 szA2 hcl harA ⊢
  have spw := w.sp
  mul_fits
  refine many_w (by omega) ?_
  have q1 : (stS w.cs).length ≤ sizeLine := by rw [st_length]; exact le_size (by omega)
  mul_fits
  rw [st_length]
  refine draw_ (by omega) (by omega) fun f d8 y0 y1 => ?_
  obtain ⟨f, rfl⟩ := Int.eq_ofNat_of_zero_le y0
  have rg1 : RgOk 0 (w.ar : Int) := by unfold RgOk; omega
  have rg2 : RgOk ((w.ar : Int) + (f : Int)) (w.spots : Int) := by unfold RgOk; omega
  have rg3 : RgOk (w.ar : Int) ((w.ar : Int) + (f : Int)) := by unfold RgOk; omega
  have rl : ∀ i j : Int, (rgD i j).length = (j - i).toNat := fun i j => by simp [rgD]
  mul_fits
  refine w_ask (by rw [rl, rl]; exact le_size (by omega)) ?_
  mul_fits
  refine w_ask (by rw [List.length_append, rl, rl, rl]; exact le_size (by omega)) ?_
  mul_fits
  have ei : D.tup (rgD 0 (w.ar : Int) ++ rgD ((w.ar : Int) + (f : Int)) (w.spots : Int) ++ rgD (w.ar : Int) ((w.ar : Int) + (f : Int))) = imD (fun q => (rot w.ar (w.ar + f) w.cs.length).getD q 0) w.spots := by
    have := rot_im (ar := w.ar) (f := w.ar + f) (n := w.cs.length) (by omega) (by omega)
    exact this
  rw [ei]
  have bj := rot_bij (ar := w.ar) (f := w.ar + f) (n := w.cs.length) (by omega) (by omega)
  refine renumber_holds_w bj okA skA (by omega) (by omega) ?_
  mul_fits
  have fin : ∀ (x : Int) (Q' : D → Sto → Prop), Q' (.bl true) (d8.st (R ++ [.lst [.int 0, .int x, .int ((w.spots : Int) - 1)]])) → W (orc T (k + 5) 24 [w.d, .ref (R.length + 2)] (d8.st (R ++ [.lst [.int 0, .int x, .int ((w.spots : Int) - 1)]]))) Q' := fun x Q' hq' =>
    seen_holds_w (by rw [st_get]; exact get_end _ _) (by simp) (fun y hy => by
      simp at hy
      rcases hy with rfl | rfl | rfl
      · exact ⟨_, rfl⟩
      · exact ⟨_, rfl⟩
      · exact ⟨_, rfl⟩) okA skA (by omega) (by omega) hq'
  have ends : W (gc (d.st R) (.bl true) (d8.st (R ++ [.lst [.int 0, .int 0, .int 0]]))) Q := gc_st2 (by simp [below]) (hq d8)
  refine w_ifd (fun c => ?_) fun c => ?_
  · have hg : 0 < g.ar := by omega
    have a1 : atI (pl.map natD) 0 = some (natD (pl.getD 0 0)) := by
      have : atI (pl.map natD) ((0 : Nat) : Int) = some (natD (pl.getD 0 0)) := by
        rw [at_map _ _ _ (by omega)]
        simp [List.getD, hpl, hg]
      exact this
    mul_fits
    simp only [st_len, st_app]
    refine fin _ _ ?_
    mul_fits
    exact gc_st2 (by simp [below]) (hq d8)
  · mul_fits
    simp only [st_len, st_app]
    refine fin _ _ ?_
    mul_fits
    exact gc_st2 (by simp [below]) (hq d8)
theorem ak_holds {a : Ak} {S : Sto} (ok : a.Ok) (hq : Q (.bl true) S) : W (orc T (k + 4) 22 [a.h.d, .tup (a.pl.map natD), a.g.d] S) Q :=
  glue_holds_w ok.h1 ok.g1 ok.h2 ok.g2 ok.o ⟨Nat.le_trans ok.h3.1 (by decide), Nat.le_trans ok.h3.2 (by decide)⟩ ⟨Nat.le_trans ok.g3.1 (by decide), Nat.le_trans ok.g3.2 (by decide)⟩ hq
theorem law3 {sc : List D} {o6 o7 : Option D} {w : Wb} {a : Ak} {l : List D} {R : Sto} {ia : Nat} (okh : h.Ok) (sh : h.Sk) (zh : Sz 10 10 h) (okw : w.Ok) (sw : w.Sk) (zw : Sz 40 60 w) (ha : a.Ok) (h0 : 0 < row.length) (hl : row.length < 1000) (hb : R[b]? = some (.lst row)) (hlt : ∀ x ∈ row, Lt x) (hia : R[ia]? = some (.lst (a.d :: l))) :
    W (evSs (orc T 20) b_law_3 [some (.fix sc), some (.ref 1), some (.ref (b + 2)), some h.d, some (.ref (ia + 2)), some w.d, o6, o7] (d.st R)) Good1 := by
  simp only [b_law_3]
  obtain ⟨z1, z2⟩ := zw
  have har := okw.arl
  have sp := w.sp
  have rgok : RgOk 0 (w.spots : Int) := by unfold RgOk; omega
  mul_fits
  refine many_w (by omega) ?_
  mul_fits
  simp only [st_len, st_app]
  have hrl : (rgD 0 (w.spots : Int)).length = w.spots := by rw [rgD0]; simp
  refine seen_holds_w (a := R.length + 2) (l := rgD 0 (w.spots : Int)) (by rw [st_get]; exact get_end _ _) (by rw [hrl]; omega) (fun x hx => by obtain ⟨i, e, _⟩ := rgD_get hx; exact ⟨i, e⟩) okw sw (by omega) (by omega) ?_
  mul_fits
  refine images_w (by omega) har fun im inv d1 bj => ?_
  mul_fits
  refine renumber_holds_w bj okw sw (by omega) (by omega) ?_
  mul_fits
  simp only [b_law_4]
  have hb' : (R ++ [Ob.lst (rgD 0 (w.spots : Int))])[b]? = some (.lst row) := get_pre hb
  have hia' : (R ++ [Ob.lst (rgD 0 (w.spots : Int))])[ia]? = some (.lst (a.d :: l)) := get_pre hia
  generalize R ++ [Ob.lst (rgD 0 (w.spots : Int))] = R2 at hb' hia' ⊢
  mul_fits
  refine orders_w okh sh zh h0 hl hb' hlt fun d2 => ?_
  mul_fits
  refine turned_w okh sh zh h0 hl hb' hlt fun d3 => ?_
  mul_fits
  simp only [b_law_5]
  mul_fits
  have k1 : ∀ d : DS, (d.st R2)[ia + 2]? = some (.lst (a.d :: l)) := fun d => hia'
  have a0 : atI (a.d :: l) 0 = some a.d := at_nat (a.d :: l) 0 (by simp)
  have fin : ∀ d : DS, W (evSs (orc T 20) b_law_6 [some (.fix sc), some (.ref 1), some (.ref (b + 2)), some h.d, some (.ref (ia + 2)), some w.d, o6, o7] (d.st R2)) Good1 := by
    intro d
    simp only [b_law_6]
    have k1' := k1 d
    mul_fits
    refine ak_holds ha ?_
    mul_fits
    exact good1
  refine rare_w (by decide) (by decide) fun c d4 => ?_
  mul_fits
  cases c
  · mul_fits
    exact fin d4
  · mul_fits
    refine large_w h0 hl hb' hlt fun d5 => ?_
    mul_fits
    exact fin d5
theorem law_w {sc : List Int} (hs : sc.length ≤ 63) : W (orc T (20 + 1) 29 [.fix (sc.map .int)] []) fun d _ => d = .bl true := by
  refine orc_w (ρ := [some (.fix (sc.map .int)), none, none, none, none, none, none, none]) rfl rfl rfl ?_
  show W (evSs _ b_law _ _) Good1
  simp only [b_law]
  mul_fits
  refine begin_w rfl hs ?_
  mul_fits
  refine letter_w fun s1 d1 hs1 => ?_
  mul_fits
  refine letter_w fun s2 d2 hs2 => ?_
  mul_fits
  simp only [st_len, st_app, List.nil_append, List.length_nil]
  have hrow : ∀ x ∈ [singD s1, singD s2], Lt x := fun x hx => by
    simp at hx
    rcases hx with rfl | rfl
    · exact ⟨_, hs1, rfl⟩
    · exact ⟨_, hs2, rfl⟩
  have hb0 : ([Ob.lst [singD s1, singD s2]] : Sto)[0]? = some (.lst [singD s1, singD s2]) := rfl
  generalize hrr : [singD s1, singD s2] = row at hrow hb0
  have hr0 : 0 < row.length := by rw [← hrr]; simp
  have hr1 : row.length < 1000 := by rw [← hrr]; simp
  refine draw_ (by decide) (by decide) fun ar d3 a0 a1 => ?_
  obtain ⟨ar, rfl⟩ := Int.eq_ofNat_of_zero_le a0
  mul_fits
  refine draw_ (by decide) (by decide) fun n d4 n0 n1 => ?_
  obtain ⟨n, rfl⟩ := Int.eq_ofNat_of_zero_le n0
  mul_fits
  refine draw_ (by decide) (by decide) fun t d5 t0 t1 => ?_
  obtain ⟨t, rfl⟩ := Int.eq_ofNat_of_zero_le t0
  mul_fits
  refine own_web_w (b := 0) (by omega) (by omega) (by omega) hr0 hr1 hb0 hrow fun h d6 ok s e1 e2 e3 => ?_
  mul_fits
  simp only [st_len, st_app, List.length_cons, List.length_nil]
  refine draw_ (by decide) (by decide) fun y d7 y0 y1 => ?_
  obtain ⟨y, rfl⟩ := Int.eq_ofNat_of_zero_le y0
  mul_fits
  rw [show (1 : Int) + (y : Int) = ((1 + y : Nat) : Int) by omega, rgD_0]
  refine loopS_w (fun ds ρ S' => ∃ (c m : Nat) (l : List Ak) (w : Wb) (o6 o7 : Option D) (d' : DS), c + m = 1 + y ∧ ds = (List.range' c m).map natD ∧ S' = d'.st ([Ob.lst row] ++ [.lst (l.map Ak.d)]) ∧ ρ = [some (.fix (sc.map .int)), some (.ref 1), some (.ref (0 + 2)), some h.d, some (.ref (1 + 2)), some w.d, o6, o7] ∧ l.length = c ∧ (∀ a ∈ l, a.Ok) ∧ w.Ok ∧ w.Sk ∧ Sz (6 + 5 * c) (8 + 8 * c) w) ?_ ?_ _ _ _ ⟨0, 1 + y, [], h, _, _, d7, by omega, rfl, rfl, rfl, rfl, by simp, ok, s, ⟨by omega, by omega⟩⟩
  · rintro e es ρ S' ⟨c, m, l, w, o6, o7, d', hcm, hes, rfl, rfl, hll, hlo, wo, ws, wz⟩
    refine ⟨trivial, ?_⟩
    cases m with
    | zero => exact absurd hes (by simp)
    | succ m =>
    rw [rg'_cons, List.map_cons, List.cons.injEq] at hes
    obtain ⟨rfl, rfl⟩ := hes
    obtain ⟨wz1, wz2⟩ := wz
    have har := wo.arl
    have sp := w.sp
    have hbb : ∀ o, ([Ob.lst row] ++ [o])[0]? = some (.lst row) := fun o => rfl
    simp only [b_law_1]
    mul_fits
    refine guest_w (b := 0) (by omega) hr0 hr1 (hbb _) hrow fun g d2 go gs gar gz => ?_
    have k1 : ∀ d : DS, (d.st ([Ob.lst row] ++ [.lst (l.map Ak.d)]))[1 + 2]? = some (.lst (l.map Ak.d)) := fun d => rfl
    mul_fits
    refine places_w (by omega) har gar fun pl d3 o => ?_
    mul_fits
    have kl : (l.map Ak.d).length < sizeLine := by rw [List.length_map]; exact le_size (by omega)
    refine v_app (k1 d3) kl ?_
    have se : ∀ q : List D, (d3.st ([Ob.lst row] ++ [.lst (l.map Ak.d)])).set (1 + 2) (.lst q) = d3.st ([Ob.lst row] ++ [.lst q]) := fun q => rfl
    rw [se]
    have ao : (⟨w, pl, g⟩ : Ak).Ok := ⟨wo, ws, ⟨show w.cs.length ≤ 40 by omega, show w.ts.length ≤ 60 by omega⟩, go, gs, gz, o⟩
    have k2 : (d3.st ([Ob.lst row] ++ [.lst (l.map Ak.d ++ [(⟨w, pl, g⟩ : Ak).d])]))[1 + 2]? = some (.lst (l.map Ak.d ++ [(⟨w, pl, g⟩ : Ak).d])) := rfl
    have al := at_last (l.map Ak.d) (⟨w, pl, g⟩ : Ak).d
    mul_fits
    refine ak_holds ao ?_
    mul_fits
    simp only [b_law_2]
    mul_fits
    obtain ⟨gz1, gz2⟩ := gz
    refine lglued_w wo go o (show w.cs.length + g.cs.length ≤ 5000 by omega) (show w.ts.length + g.ts.length ≤ 5000 by omega) ?_
    mul_fits
    refine ⟨_, .inl rfl, c + 1, m, l ++ [⟨w, pl, g⟩], glu w pl g, _, _, d3, by omega, rfl, by rw [List.map_append]; rfl, rfl, by simp [hll], fun a ha => ?_, glu_ok wo go o, glu_sk ws gs, ?_⟩
    · rcases List.mem_append.mp ha with ha | ha
      · exact hlo a ha
      · simp at ha
        subst ha
        exact ao
    · have := glu_sz (pl := pl) (show Sz (6 + 5 * c) (8 + 8 * c) w from ⟨wz1, wz2⟩) (show Sz 5 8 g from ⟨gz1, gz2⟩)
      exact ⟨by have := this.1; omega, by have := this.2; omega⟩
  · rintro ρ S' ⟨c, m, l, w, o6, o7, d', hcm, hes, rfl, rfl, hll, hlo, wo, ws, wz⟩
    refine ⟨trivial, ?_⟩
    cases m with
    | succ m => exact absurd hes (by simp [rg'_cons])
    | zero =>
    cases l with
    | nil => simp at hll; omega
    | cons a l =>
    mul_fits
    exact law3 (b := 0) (ia := 1) ok s ⟨by omega, by omega⟩ wo ws ⟨by have := wz.1; omega, by have := wz.2; omega⟩ (hlo a (by simp)) hr0 hr1 rfl hrow rfl
end
theorem law_true : ∀ ns : List Int, ns.length ≤ 63 → ∃ S, orc T (20 + 1) 29 [.fix (ns.map .int)] [] = .ok (.bl true) S := fun ns h => by
  obtain ⟨a, S, e, q⟩ := law_w h
  subst q
  exact ⟨S, e⟩
end K07
end
open PySem PySem.W PySem.Calls PyProof.Rows
set_option maxHeartbeats 0 in
theorem PySem.Challenge.cw_everygrown_k07_glued_webs_holds : PySem.Challenge.rw_everygrown_k07_glued_webs.Holds := by
  w_on; o_law
  refine HandSHeadRun.head_any (r := OpenLaw.row PySem.Challenge.rw_everygrown_k07_glued_webs) (q := view (OpenLaw.row PySem.Challenge.rw_everygrown_k07_glued_webs).prog [31]) (H := K07.hk) (ob := K07.ob) (M := 1500) (loose := K07.loose) (d := HandSHeadRun.topDef (OpenLaw.row PySem.Challenge.rw_everygrown_k07_glued_webs).prog 31) (kwd := []) K07.ob_eq
    (by kernel_rfl) (fun s => by kernel_rfl) K07.run (by kernel_rfl) (by kernel_rfl) (by kernel_rfl) (by rfl) (by first | assumption | decide +kernel) (by decide +kernel) ⟨rfl, rfl, rfl, rfl, rfl, by decide +kernel⟩ ?hw ?hc
  case hw => w_witness2
  case hc =>
    refine L2.walk_ofE (l := PySem.Challenge.rw_everygrown_k07_glued_webs) (n := 63) (k := 21) (x := "script") (CX := L2.CX0) rfl (by decide) (by kernel_rfl) ⟨rfl, by decide, by decide⟩ ?F (fun _ _ _ _ z => z)
    intro w mg fa h Y G hmg0
    obtain ⟨K, KX, c, cg⟩ := Y
    have hmg : mg ("law" : PySem.Str) = some (.ref fa) := by
      have e : (HandSHeadRun.topDef (OpenLaw.row PySem.Challenge.rw_everygrown_k07_glued_webs).prog 31).name = ("law" : PySem.Str) := by kernel_rfl
      rw [← e]
      exact hmg0
    exact PQ.law_end (names := K07.names) (T := K07.T) (B := K07.B) (Gs := K07.Gs) (i := 29) (k := 20) KX rfl (K07.frees KX G c) (PQ.gB_ok KX G cg) (K07.defs KX G c) rfl rfl rfl hmg (by decide) (by decide) K07.law_true
