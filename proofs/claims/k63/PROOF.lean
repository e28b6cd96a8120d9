import PyProof.Rows.All
import Wide.All
import OpenK.AllK
import Wide.FinOn
import HandS.ForMost
import HandS.Defaults
import HandS.Wide
import HandS.Gcd
import HandS.IsInst
import HandS.Style
import HandS.Conv
import HandS.NoneIn
import HandS.TupAny
import HandS.Flow
import HandS.Zip
import KE.SortData
import HandS.Head2
import HandS.HeadEnd
import HandS.HeadHook2
import KE.KStateDown
import HandS.Text
import PyProof.ListStr
import HandS.More
import HandS.Deep
import HandS.WideBits
import PyProof.FitsReplace
import HandS.Head3
import PySem.Challenge.RW_everygrown_k63_combinations
set_option Elab.async false
set_option linter.all false
set_option maxRecDepth 100000
set_option maxHeartbeats 4000000
/-! A small language of pure data and stores, and what it says of the machine. -/
namespace PQ
open PySem PySem.Spec PyProof.Rows L2

/-- data: what a Python value is worth, tuples by their items, changeable lists by a number in the store -/
inductive D where
  | non
  | bl (b : Bool)
  | int (i : Int)
  | str (x : Str)
  | tup (ds : List D)
  | ref (i : Nat)
  | fix (ds : List D)
/-- what stands in the store -/
inductive Ob where
  | lst (ds : List D)
abbrev Sto := List Ob
abbrev En := List (Option D)
abbrev Fg := PySem.W.Frag

/-- a list that nobody changes -/
def Fix (K : Fg) (H : Hp) (a : Addr) (xs : List V) : Prop :=
  (∃ o, H a = some (.frz o (.lst xs))) ∨
    ∃ (o : Obj) (its : Array Value) (n : Nat), K.lookup a = some o ∧ o.cls = .type "list" ∧ o.dict = none ∧ o.data = .seq its n ∧ its.size ≤ sizeLine ∧ Vals xs its.toList
theorem Fix.sq {K : Fg} {H : Hp} {a : Addr} {xs : List V} (h : Fix K H a xs) : SqL K H a xs := by
  rcases h with ⟨o, h⟩ | h
  · exact .inl (.inr ⟨o, h⟩)
  · exact .inr h

mutual
def Rp (K : Fg) (μ : List Addr) (H : Hp) : D → V → Prop
  | .non, v => v = .non
  | .bl b, v => v = .bl b
  | .int i, v => v = .int i
  | .str x, v => v = .str x
  | .tup ds, v => ∃ a vs, v = .ref a ∧ SqT K H a vs ∧ RpA K μ H ds vs ∧ ds.length ≤ sizeLine
  | .ref i, v => ∃ a, v = .ref a ∧ μ[i]? = some a
  | .fix ds, v => ∃ a vs, v = .ref a ∧ Fix K H a vs ∧ RpA K μ H ds vs ∧ ds.length ≤ sizeLine
def RpA (K : Fg) (μ : List Addr) (H : Hp) : List D → List V → Prop
  | [], vs => vs = []
  | d :: ds, vs => ∃ v r, vs = v :: r ∧ Rp K μ H d v ∧ RpA K μ H ds r
end

section
variable {K : Fg} {μ μ' μ1 μ2 : List Addr} {H H' H1 H2 : Hp} {S S' : Sto} {σ σ' : L2.St} {ρ : En}

/-- what a run may do to the machine: new things, and changes at the store's own addresses -/
structure Ext (K : Fg) (μ : List Addr) (H : Hp) (μ' : List Addr) (H' : Hp) : Prop where
  pre : ∃ l, μ' = μ ++ l ∧ ∀ a ∈ l, H a = none
  alive : ∀ a, H' a = none → H a = none
  fr : ∀ a o, H a = some o → a ∉ μ → H' a = some o
  tup : ∀ a xs, SqT K H a xs → SqT K H' a xs
  fix : ∀ a xs, Fix K H a xs → Fix K H' a xs
theorem Ext.refl : Ext K μ H μ H := ⟨⟨[], by simp, fun a h => nomatch h⟩, fun _ h => h, fun _ _ h _ => h, fun _ _ h => h, fun _ _ h => h⟩
theorem Ext.trans (a : Ext K μ H μ1 H1) (b : Ext K μ1 H1 μ2 H2) : Ext K μ H μ2 H2 := by
  obtain ⟨l, e, n⟩ := a.pre
  obtain ⟨l', e', n'⟩ := b.pre
  refine ⟨⟨l ++ l', by rw [e', e, List.append_assoc], fun c hc => ?_⟩, fun c h => a.alive c (b.alive c h), fun c o h hc => ?_, fun c xs h => b.tup c xs (a.tup c xs h), fun c xs h => b.fix c xs (a.fix c xs h)⟩
  · rcases List.mem_append.mp hc with h | h
    · exact n c h
    · exact a.alive c (n' c h)
  · refine b.fr c o (a.fr c o h hc) fun hm => ?_
    rw [e] at hm
    rcases List.mem_append.mp hm with hm | hm
    · exact hc hm
    · rw [n c hm] at h; cases h
theorem Ext.get (e : Ext K μ H μ' H') {i : Nat} {a : Addr} (h : μ[i]? = some a) : μ'[i]? = some a := by
  obtain ⟨l, rfl, _⟩ := e.pre
  rw [List.getElem?_append_left (List.getElem?_eq_some_iff.mp h).1]
  exact h
theorem Ext.len (e : Ext K μ H μ' H') : μ.length ≤ μ'.length := by
  obtain ⟨l, rfl, _⟩ := e.pre
  rw [List.length_append]
  omega

/-- what is represented stays represented -/
structure Le (K : Fg) (μ : List Addr) (H : Hp) (μ' : List Addr) (H' : Hp) : Prop where
  get : ∀ (i : Nat) a, μ[i]? = some a → μ'[i]? = some a
  tup : ∀ a xs, SqT K H a xs → SqT K H' a xs
  fix : ∀ a xs, Fix K H a xs → Fix K H' a xs
theorem Ext.le (e : Ext K μ H μ' H') : Le K μ H μ' H' := ⟨fun _ _ h => e.get h, e.tup, e.fix⟩
theorem Le.more (l : List Addr) : Le K μ H (μ ++ l) H := ⟨fun i a h => by
  rw [List.getElem?_append_left (List.getElem?_eq_some_iff.mp h).1]
  exact h, fun _ _ h => h, fun _ _ h => h⟩
mutual
theorem Rp.le (e : Le K μ H μ' H') : ∀ (d : D) (v : V), Rp K μ H d v → Rp K μ' H' d v
  | .non, _, h => h
  | .bl _, _, h => h
  | .int _, _, h => h
  | .str _, _, h => h
  | .tup ds, _, ⟨a, vs, h1, h2, h3, h4⟩ => ⟨a, vs, h1, e.tup _ _ h2, RpA.le e ds vs h3, h4⟩
  | .ref _, _, ⟨a, h1, h2⟩ => ⟨a, h1, e.get _ _ h2⟩
  | .fix ds, _, ⟨a, vs, h1, h2, h3, h4⟩ => ⟨a, vs, h1, e.fix _ _ h2, RpA.le e ds vs h3, h4⟩
theorem RpA.le (e : Le K μ H μ' H') : ∀ (ds : List D) (vs : List V), RpA K μ H ds vs → RpA K μ' H' ds vs
  | [], _, h => h
  | d :: ds, _, ⟨v, r, h1, h2, h3⟩ => ⟨v, r, h1, Rp.le e d v h2, RpA.le e ds r h3⟩
end
theorem Rp.mono (e : Ext K μ H μ' H') {d : D} {v : V} (h : Rp K μ H d v) : Rp K μ' H' d v := Rp.le e.le d v h
theorem RpA.mono (e : Ext K μ H μ' H') {ds : List D} {vs : List V} (h : RpA K μ H ds vs) : RpA K μ' H' ds vs := RpA.le e.le ds vs h
theorem RpA.nil : RpA K μ H [] [] := rfl
theorem RpA.cons {d : D} {v : V} {ds : List D} {vs : List V} (h : Rp K μ H d v) (t : RpA K μ H ds vs) : RpA K μ H (d :: ds) (v :: vs) := ⟨v, vs, rfl, h, t⟩
theorem RpA.length : ∀ {ds : List D} {vs : List V}, RpA K μ H ds vs → ds.length = vs.length
  | [], _, h => by rw [h]; rfl
  | _ :: ds, _, ⟨v, r, h1, _, h3⟩ => by rw [h1, List.length_cons, List.length_cons, RpA.length h3]
theorem RpA.get : ∀ {ds : List D} {vs : List V} {i : Nat} {d : D}, RpA K μ H ds vs → ds[i]? = some d → ∃ v, vs[i]? = some v ∧ Rp K μ H d v
  | d :: ds, _, 0, _, ⟨v, r, h1, h2, _⟩, e => by
    cases e
    exact ⟨v, by rw [h1]; rfl, h2⟩
  | _ :: ds, _, i + 1, d, ⟨v, r, h1, _, h3⟩, e => by
    obtain ⟨x, e1, e2⟩ := RpA.get (i := i) h3 e
    exact ⟨x, by rw [h1]; exact e1, e2⟩
theorem RpA.getV : ∀ {ds : List D} {vs : List V} {i : Nat} {v : V}, RpA K μ H ds vs → vs[i]? = some v → ∃ d, ds[i]? = some d ∧ Rp K μ H d v
  | [], _, _, _, h, e => by rw [h] at e; cases e
  | d :: ds, _, 0, _, ⟨v, r, h1, h2, _⟩, e => by
    rw [h1] at e
    cases e
    exact ⟨d, rfl, h2⟩
  | _ :: ds, _, i + 1, v, ⟨_, r, h1, _, h3⟩, e => by
    rw [h1] at e
    obtain ⟨x, e1, e2⟩ := RpA.getV (i := i) h3 e
    exact ⟨x, e1, e2⟩
theorem RpA.append : ∀ {ds es : List D} {vs us : List V}, RpA K μ H ds vs → RpA K μ H es us → RpA K μ H (ds ++ es) (vs ++ us)
  | [], _, _, _, h, t => by rw [h]; exact t
  | _ :: ds, _, _, _, ⟨v, r, h1, h2, h3⟩, t => by rw [h1]; exact ⟨v, _, rfl, h2, RpA.append h3 t⟩
theorem RpA.set {d : D} {v : V} (hd : Rp K μ H d v) : ∀ {ds : List D} {vs : List V} (i : Nat), RpA K μ H ds vs → RpA K μ H (ds.set i d) (vs.set i v)
  | [], _, _, h => by rw [h]; exact rfl
  | _ :: ds, _, 0, ⟨w, r, h1, h2, h3⟩ => by rw [h1]; exact ⟨v, r, rfl, hd, h3⟩
  | _ :: ds, _, i + 1, ⟨w, r, h1, h2, h3⟩ => by rw [h1]; exact ⟨w, _, rfl, h2, RpA.set hd i h3⟩
theorem RpA.take : ∀ {ds : List D} {vs : List V} (n : Nat), RpA K μ H ds vs → RpA K μ H (ds.take n) (vs.take n)
  | _, _, 0, _ => rfl
  | [], _, _ + 1, h => by rw [h]; exact rfl
  | _ :: ds, _, n + 1, ⟨w, r, h1, h2, h3⟩ => by rw [h1]; exact ⟨w, _, rfl, h2, RpA.take n h3⟩
theorem RpA.drop : ∀ {ds : List D} {vs : List V} (n : Nat), RpA K μ H ds vs → RpA K μ H (ds.drop n) (vs.drop n)
  | _, _, 0, h => h
  | [], _, _ + 1, h => by rw [h]; exact rfl
  | _ :: ds, _, n + 1, ⟨w, r, h1, h2, h3⟩ => by rw [h1]; exact RpA.drop n h3
theorem RpA.eraseIdx : ∀ {ds : List D} {vs : List V} (n : Nat), RpA K μ H ds vs → RpA K μ H (ds.eraseIdx n) (vs.eraseIdx n)
  | [], _, _, h => by rw [h]; exact rfl
  | _ :: ds, _, 0, ⟨w, r, h1, h2, h3⟩ => by rw [h1]; exact h3
  | _ :: ds, _, n + 1, ⟨w, r, h1, h2, h3⟩ => by rw [h1]; exact ⟨w, _, rfl, h2, RpA.eraseIdx n h3⟩
theorem RpA.reverse : ∀ {ds : List D} {vs : List V}, RpA K μ H ds vs → RpA K μ H ds.reverse vs.reverse
  | [], _, h => by rw [h]; exact rfl
  | d :: ds, _, ⟨w, r, h1, h2, h3⟩ => by
    rw [h1, List.reverse_cons, List.reverse_cons]
    exact RpA.append (RpA.reverse h3) (.cons h2 .nil)

/-- an object of the store as it stands -/
def ObR (K : Fg) (μ : List Addr) (H : Hp) : Ob → Addr → Prop
  | .lst ds, a => ∃ vs, H a = some (.lst vs) ∧ RpA K μ H ds vs ∧ ds.length ≤ sizeLine
structure StOk (K : Fg) (μ : List Addr) (H : Hp) (S : Sto) : Prop where
  len : μ.length = S.length
  nd : μ.Nodup
  ob : ∀ (i : Nat) o a, S[i]? = some o → μ[i]? = some a → ObR K μ H o a
theorem ObR.some {o : Ob} {a : Addr} (h : ObR K μ H o a) : ∃ u, H a = some u ∧ (∀ xs, u ≠ .tup xs) ∧ ∀ b xs, u ≠ .frz b xs := by
  cases o with
  | lst ds =>
    obtain ⟨vs, e, _⟩ := h
    exact ⟨.lst vs, e, fun _ => (fun z => by cases z), fun _ _ => (fun z => by cases z)⟩
theorem StOk.mem (h : StOk K μ H S) {a : Addr} (m : a ∈ μ) : ∃ u, H a = some u ∧ (∀ xs, u ≠ .tup xs) ∧ ∀ b xs, u ≠ .frz b xs := by
  obtain ⟨i, e⟩ := List.mem_iff_getElem?.mp m
  have hi : i < S.length := by
    rw [← h.len]
    exact (List.getElem?_eq_some_iff.mp e).1
  exact (h.ob i S[i] a (List.getElem?_eq_getElem hi) e).some
/-- from what was changed alone -/
theorem StOk.ext (h : StOk K μ H S) (pre : ∃ l, μ' = μ ++ l ∧ ∀ a ∈ l, H a = none) (alive : ∀ a, H' a = none → H a = none) (fr : ∀ a o, H a = some o → a ∉ μ → H' a = some o) : Ext K μ H μ' H' := by
  refine ⟨pre, alive, fr, fun a xs q => ?_, fun a xs q => ?_⟩
  · rcases q with (q | ⟨o, q⟩) | q
    · refine .inl (.inl (fr _ _ q fun m => ?_))
      obtain ⟨u, e, n1, _⟩ := h.mem m
      rw [q] at e
      exact n1 xs (Option.some.inj e).symm
    · refine .inl (.inr ⟨o, fr _ _ q fun m => ?_⟩)
      obtain ⟨u, e, _, n2⟩ := h.mem m
      rw [q] at e
      exact n2 _ _ (Option.some.inj e).symm
    · exact .inr q
  · rcases q with ⟨o, q⟩ | q
    · refine .inl ⟨o, fr _ _ q fun m => ?_⟩
      obtain ⟨u, e, _, n2⟩ := h.mem m
      rw [q] at e
      exact n2 _ _ (Option.some.inj e).symm
    · exact .inr q
/-- a new thing that the store does not know -/
theorem StOk.fresh (h : StOk K μ H S) {p : Addr} (hp : H p = none) (o : HO) : Ext K μ H μ (upd H p o) :=
  h.ext ⟨[], by simp, fun a z => nomatch z⟩ (fun a z => by
    by_cases e : a = p
    · rw [e]; exact hp
    · rw [upd_ne e] at z; exact z) fun a u z _ => by rw [upd_ne (ne_of_none z hp)]; exact z
theorem ObR.le {o : Ob} {a : Addr} (e : Le K μ H μ' H') (q : H' a = H a) (h : ObR K μ H o a) : ObR K μ' H' o a := by
  cases o with
  | lst ds =>
    obtain ⟨vs, e1, e2, e3⟩ := h
    exact ⟨vs, q.trans e1, RpA.le e ds vs e2, e3⟩
theorem StOk.freshOk (h : StOk K μ H S) {p : Addr} (hp : H p = none) (o : HO) : StOk K μ (upd H p o) S :=
  ⟨h.len, h.nd, fun i ob a e1 e2 => (h.ob i ob a e1 e2).le (h.fresh hp o).le (by
    obtain ⟨u, e, _⟩ := h.mem (List.mem_of_getElem? e2)
    rw [upd_ne (ne_of_none e hp)])⟩
/-- a list of one's own that the store takes up -/
theorem StOk.take (h : StOk K μ H S) {p : Addr} {vs : List V} {ds : List D} (hp : p ∉ μ) (hv : H p = some (.lst vs)) (r : RpA K μ H ds vs) (hz : ds.length ≤ sizeLine) : StOk K (μ ++ [p]) H (S ++ [.lst ds]) := by
  refine ⟨by rw [List.length_append, List.length_append, h.len]; rfl, ?_, fun i o a e1 e2 => ?_⟩
  · rw [List.nodup_append]
    exact ⟨h.nd, by simp, fun a ha b hb z => by
      have : b = p := by simpa using hb
      rw [z, this] at ha
      exact hp ha⟩
  · by_cases hi : i < S.length
    · rw [List.getElem?_append_left hi] at e1
      rw [List.getElem?_append_left (by rw [h.len]; exact hi)] at e2
      exact (h.ob i o a e1 e2).le (Le.more [p]) rfl
    · have hi2 : i = S.length := by
        have := (List.getElem?_eq_some_iff.mp e1).1
        rw [List.length_append] at this
        simp at this
        omega
      subst hi2
      rw [List.getElem?_append_right (Nat.le_refl _), Nat.sub_self] at e1
      rw [← h.len, List.getElem?_append_right (Nat.le_refl _), Nat.sub_self] at e2
      cases e1
      cases e2
      exact ⟨vs, hv, RpA.le (Le.more [p]) ds vs r, hz⟩
theorem Ext.take (e : Ext K μ H μ1 H1) {p : Addr} (hp : H p = none) : Ext K μ H (μ1 ++ [p]) H1 := by
  obtain ⟨l, rfl, n⟩ := e.pre
  refine ⟨⟨l ++ [p], by rw [List.append_assoc], fun a ha => ?_⟩, e.alive, e.fr, e.tup, e.fix⟩
  rcases List.mem_append.mp ha with h | h
  · exact n a h
  · have : a = p := by simpa using h
    rw [this]; exact hp
/-- a list of the store is changed -/
theorem StOk.put (h : StOk K μ H S) {i : Nat} {p : Addr} {vs : List V} {ds : List D} (hi : μ[i]? = some p) (r : RpA K μ H ds vs) (hz : ds.length ≤ sizeLine) : Ext K μ H μ (upd H p (.lst vs)) ∧ StOk K μ (upd H p (.lst vs)) (S.set i (.lst ds)) := by
  have hm : p ∈ μ := List.mem_of_getElem? hi
  have ex : Ext K μ H μ (upd H p (.lst vs)) := h.ext ⟨[], by simp, fun a z => nomatch z⟩ (fun a z => by
    by_cases e : a = p
    · rw [e, upd_same] at z; cases z
    · rw [upd_ne e] at z; exact z) fun a u z q => by
      rw [upd_ne (fun e => q (by rw [e]; exact hm))]
      exact z
  refine ⟨ex, by rw [List.length_set]; exact h.len, h.nd, fun j o a e1 e2 => ?_⟩
  by_cases hj : i = j
  · subst hj
    rw [hi] at e2
    cases e2
    rw [List.getElem?_set_self (by rw [← h.len]; exact (List.getElem?_eq_some_iff.mp hi).1)] at e1
    cases e1
    exact ⟨vs, upd_same, RpA.mono ex r, hz⟩
  · rw [List.getElem?_set_ne hj] at e1
    have hne : a ≠ p := fun z => hj (by
      rw [z] at e2
      obtain ⟨h1, q1⟩ := List.getElem?_eq_some_iff.mp hi
      obtain ⟨h2, q2⟩ := List.getElem?_eq_some_iff.mp e2
      exact (List.getElem_inj h.nd).mp (q1.trans q2.symm))
    exact (h.ob j o a e1 e2).le ex.le (upd_ne hne)
theorem StOk.lst (h : StOk K μ H S) {i : Nat} {a : Addr} {ds : List D} (e1 : S[i]? = some (.lst ds)) (e2 : μ[i]? = some a) : ∃ vs, H a = some (.lst vs) ∧ RpA K μ H ds vs ∧ ds.length ≤ sizeLine := h.ob i _ a e1 e2
end
end PQ

/-! The language: its syntax and what it says. -/
namespace PQ
open PySem PySem.Spec PyProof.Rows L2

inductive Res (α : Type) where
  | ok (a : α) (S : Sto)
  | exc (c : Str) (fs : List (Str × D)) (S : Sto)
  | bad
def Res.bind {α β : Type} : Res α → (α → Sto → Res β) → Res β
  | .ok a S, f => f a S
  | .exc c fs S, _ => .exc c fs S
  | .bad, _ => .bad
/-- a wish that is granted, or nothing -/
noncomputable def ask {α : Type} (p : Prop) (r : Res α) : Res α := open Classical in if p then r else .bad
def may {α β : Type} (o : Option α) (f : α → Res β) : Res β := match o with
  | some a => f a
  | none => .bad

inductive Bop | add | sub | mul | fdiv | mod | pow | shl | shr | band | bor | bxor
inductive Cop | eq | ne | lt | le | gt | ge
inductive Ag | len | sum | all | any | min | max | tuple
inductive F1 | int | abs | str
inductive F2 | min | max | gcd
inductive Ty | int | bool | str | tuple
/-- targets: a name, a row of names -/
inductive CN
  | nm (i : Nat)
  | tup (is : List Nat)

mutual
inductive CE where
  | var (i : Nat)
  | lit (d : D)
  | tup (es : CEs)
  | alloc (q : CQ)
  | bin (o : Bop) (a b : CE)
  | neg (a : CE)
  | cmp (o : Cop) (a b : CE)
  | chn (o p : Cop) (a b c : CE)
  | isN (a : CE)
  | notN (a : CE)
  | inr (a : CE) (r : CR)
  | notInr (a : CE) (r : CR)
  | and (a b : CE)
  | or (a b : CE)
  | not (a : CE)
  | ife (t : CT) (a b : CE)
  | idx (a i : CE)
  | slc (a : CE) (lo hi : CO)
  | call (f : Nat) (es : CEs)
  | fn1 (f : F1) (a : CE)
  | fn2 (f : F2) (a b : CE)
  | agg (f : Ag) (r : CR)
  | isi (a : CE) (t : Ty)
  | app (l x : CE)
  | ext (l : CE) (r : CR)
  | pop (l : CE)
  | popAt (l i : CE)
  | join (s : Str) (r : CR)
inductive CO where
  | none
  | some (e : CE)
inductive CEs where
  | nil
  | cons (a : CE) (r : CEs)
inductive CQ where
  | disp (es : CEs)
  | comp (own : List Nat) (g : CN) (it : CI) (elt : CE)
  | compIf (own : List Nat) (g : CN) (it : CI) (t : CT) (elt : CE)
  | cat (a b : CR)
  | sorted (r : CR)
  | list (r : CR)
  | listRg (a b : CE)
  | rev (r : CR)
inductive CR where
  | q (c : CQ)
  | e (c : CE)
inductive CI where
  | r (c : CR)
  | rg (a b : CE)
inductive CT where
  | v (e : CE)
  | and (a b : CT)
  | or (a b : CT)
  | not (a : CT)
end
mutual
inductive CS where
  | set (g : CN) (e : CE)
  | par (i j : Nat) (a b : CE)
  | sub (o i e : CE)
  | aug (i : Nat) (o : Bop) (e : CE)
  | augS (o i : CE) (p : Bop) (e : CE)
  | ex (e : CE)
  | ret (e : CE)
  | ite (t : CT) (a b : CSs)
  | for (g : CN) (it : CI) (b : CSs)
  | while (t : CT) (b : CSs)
  | brk
  | cont
  | pass
inductive CSs where
  | nil
  | cons (s : CS) (r : CSs)
end

/-! ### values -/
mutual
/-- pure data of a value; f: of the store's lists -/
def toPW (f : Nat → Option PyData) : D → Option PyData
  | .non => some .none
  | .bl b => some (.bool b)
  | .int i => some (.int i)
  | .str x => some (.str x)
  | .tup ds => (toPsW f ds).map .tuple
  | .fix ds => (toPsW f ds).map .list
  | .ref i => f i
def toPsW (f : Nat → Option PyData) : List D → Option (List PyData)
  | [] => some []
  | d :: ds => match toPW f d, toPsW f ds with
    | some p, some ps => some (p :: ps)
    | _, _ => none
end
/-- the store's lists by their contents, at most n deep -/
def refP (S : Sto) : Nat → Nat → Option PyData
  | 0, _ => none
  | n + 1, i => match S[i]? with
    | some (.lst ds) => (toPsW (refP S n) ds).map .list
    | none => none
def toP (S : Sto) (d : D) : Option PyData := toPW (refP S 8) d
def toPs (S : Sto) (ds : List D) : Option (List PyData) := toPsW (refP S 8) ds

def scalD : D → D → Bool
  | .non, .non => true | .non, .int _ => true | .int _, .non => true | .non, .bl _ => true | .bl _, .non => true | .non, .str _ => true | .str _, .non => true
  | .int _, .int _ => true | .bl _, .bl _ => true | .str _, .str _ => true
  | .int _, .str _ => true | .str _, .int _ => true | .bl _, .str _ => true | .str _, .bl _ => true
  | _, _ => false
def eqSc : D → D → Bool
  | .non, .non => true
  | .int i, .int j => decide (i = j)
  | .bl i, .bl j => decide (i = j)
  | .str i, .str j => decide (i = j)
  | _, _ => false
def dEq (S : Sto) (x y : D) : Option Bool :=
  if scalD x y = true then some (eqSc x y) else match toP S x, toP S y with
    | some p, some q => if (SeqAt.shaped p && SeqAt.shaped q) = true then some (PyData.eqv p q) else none
    | _, _ => none
def tru (S : Sto) : D → Option Bool
  | .non => some false
  | .bl b => some b
  | .int i => some (i != 0)
  | .str x => if x.length ≤ sizeLine then some (x.length != 0) else none
  | .tup ds => some (!ds.isEmpty)
  | .fix ds => some (!ds.isEmpty)
  | .ref i => match S[i]? with
    | some (.lst ds) => some (!ds.isEmpty)
    | none => none
def FDivOk (i j : Int) : Prop := j ≠ 0 ∧ Builtin.divisionGoesByPylong i j = false
noncomputable def binD (o : Bop) (x y : D) (S : Sto) : Res D :=
  match o, x, y with
  | .add, .int i, .int j => .ok (.int (i + j)) S
  | .add, .str a, .str b => ask (a.length + b.length ≤ sizeLine) (.ok (.str (a ++ b)) S)
  | .add, .tup a, .tup b => ask (a.length + b.length ≤ sizeLine) (.ok (.tup (a ++ b)) S)
  | .add, .ref i, .ref j => match S[i]?, S[j]? with
    | some (.lst a), some (.lst b) => ask (a.length + b.length ≤ sizeLine) (.ok (.ref S.length) (S ++ [.lst (a ++ b)]))
    | _, _ => .bad
  | .sub, .int i, .int j => .ok (.int (i - j)) S
  | .mul, .int i, .int j => ask (IntMulOk i j) (.ok (.int (i * j)) S)
  | .mul, .ref i, .int k => match S[i]? with
    | some (.lst a) => ask (-(2 ^ 63) ≤ k ∧ k < 2 ^ 63 ∧ a.length * k.toNat ≤ sizeLine) (.ok (.ref S.length) (S ++ [.lst (List.replicate k.toNat a).flatten]))
    | none => .bad
  | .fdiv, .int i, .int j => ask (FDivOk i j) (.ok (.int (i.fdiv j)) S)
  | .mod, .int i, .int j => ask (j ≠ 0) (.ok (.int (i.fmod j)) S)
  | .pow, .int i, .int j => ask (CPow i j) (.ok (.int (i ^ j.toNat)) S)
  | .shl, .int i, .int j => ask (CPow i j) (.ok (.int (i * 2 ^ j.toNat)) S)
  | .shr, .int i, .int j => ask (0 ≤ j) (.ok (.int (i / 2 ^ j.toNat)) S)
  | .band, .int i, .int j => .ok (.int (Builtin.bitAnd i j)) S
  | .bor, .int i, .int j => .ok (.int (Builtin.bitOr i j)) S
  | .bxor, .int i, .int j => .ok (.int (Builtin.bitXor i j)) S
  | _, _, _ => .bad
def augD (o : Bop) (x y : D) (S : Sto) : Res D :=
  match o, x, y with
  | .add, .int i, .int j => .ok (.int (i + j)) S
  | .sub, .int i, .int j => .ok (.int (i - j)) S
  | .add, .str a, .str b => if a.length + b.length ≤ sizeLine then .ok (.str (a ++ b)) S else .bad
  | _, _, _ => .bad
def isNon : D → Bool
  | .non => true
  | _ => false
def cmpI (f : Int → Int → Bool) (x y : D) (S : Sto) : Res D := match x, y with
  | .int i, .int j => .ok (.bl (f i j)) S
  | _, _ => .bad
def cmpD (o : Cop) (x y : D) (S : Sto) : Res D :=
  match o with
  | .eq => may (dEq S x y) fun b => .ok (.bl b) S
  | .ne => may (dEq S x y) fun b => .ok (.bl (!b)) S
  | .lt => cmpI (fun i j => decide (i < j)) x y S
  | .le => cmpI (fun i j => decide (i ≤ j)) x y S
  | .gt => cmpI (fun i j => decide (j < i)) x y S
  | .ge => cmpI (fun i j => decide (j ≤ i)) x y S
/-- a walked thing: one's own list, or a value -/
inductive RV
  | own (ds : List D)
  | val (d : D)
/-- a list (tracked or fixed) by its items -/
def lsOf (S : Sto) : RV → Option (List D)
  | .own ds => some ds
  | .val (.fix ds) => some ds
  | .val (.ref i) => match S[i]? with
    | some (.lst ds) => some ds
    | none => none
  | _ => none
/-- .. a list that may change -/
def trOf (S : Sto) : RV → Option (List D)
  | .own ds => some ds
  | .val (.ref i) => match S[i]? with
    | some (.lst ds) => some ds
    | none => none
  | _ => none
/-- .. or a tuple -/
def sqOf (S : Sto) : RV → Option (List D)
  | .val (.tup ds) => some ds
  | r => lsOf S r
/-- .. or a text by its letters -/
def lettersD (z : Str) : List D := z.cps.toList.map fun c => D.str ⟨#[c]⟩
def lstOf (S : Sto) (r : RV) : Option (List D) := match r with
  | .val (.str z) => if z.length ≤ sizeLine then some (lettersD z) else none
  | r => sqOf S r
def intsOf : List D → Option (List Int)
  | [] => some []
  | .int i :: r => (intsOf r).map (i :: ·)
  | _ => none
def boolsOf : List D → Option (List Bool)
  | [] => some []
  | .bl b :: r => (boolsOf r).map (b :: ·)
  | _ => none
def strsOf : List D → Option (List Str)
  | [] => some []
  | .str x :: r => (strsOf r).map (x :: ·)
  | _ => none
def greatest : List Int → Option Int
  | [] => none
  | [x] => some x
  | x :: r => (greatest r).map fun m => if x < m then m else x
def least : List Int → Option Int
  | [] => none
  | [x] => some x
  | x :: r => (least r).map fun m => if m < x then m else x
def aggD (f : Ag) (r : RV) (S : Sto) : Res D :=
  match f with
  | .len => match r with
    | .val (.str x) => if x.length ≤ sizeLine then .ok (.int x.length) S else .bad
    | r => may (sqOf S r) fun ds => .ok (.int ds.length) S
  | .sum => may (lsOf S r) fun ds => may (intsOf ds) fun ns => .ok (.int ns.sum) S
  | .all => may (lsOf S r) fun ds => may (boolsOf ds) fun bs => .ok (.bl (bs.all id)) S
  | .any => may (lsOf S r) fun ds => may (boolsOf ds) fun bs => .ok (.bl (bs.any id)) S
  | .max => may (lsOf S r) fun ds => may (intsOf ds) fun ns => may (greatest ns) fun m => .ok (.int m) S
  | .min => may (lsOf S r) fun ds => may (intsOf ds) fun ns => may (least ns) fun m => .ok (.int m) S
  | .tuple => may (sqOf S r) fun ds => .ok (.tup ds) S
def fn1D (f : F1) (x : D) (S : Sto) : Res D :=
  match f, x with
  | .int, .int i => .ok (.int i) S
  | .int, .bl b => .ok (.int (if b then 1 else 0)) S
  | .abs, .int i => .ok (.int (if i < 0 then -i else i)) S
  | .str, .int i => if i.natAbs.log2 < 1920 then .ok (.str (toString i)) S else .bad
  | _, _ => .bad
def fn2D (f : F2) (x y : D) (S : Sto) : Res D :=
  match f, x, y with
  | .min, .int i, .int j => .ok (.int (if j < i then j else i)) S
  | .max, .int i, .int j => .ok (.int (if j > i then j else i)) S
  | .gcd, .int i, .int j => .ok (.int ((Nat.gcd i.natAbs j.natAbs : Nat) : Int)) S
  | _, _, _ => .bad
def tyB (t : Ty) (S : Sto) : D → Option Bool
  | .non => some false
  | .bl _ => some (match t with | .int => true | .bool => true | _ => false)
  | .int _ => some (match t with | .int => true | _ => false)
  | .str _ => some (match t with | .str => true | _ => false)
  | .tup _ => some (match t with | .tuple => true | _ => false)
  | .fix _ => some false
  | .ref i => match S[i]? with
    | some (.lst _) => some false
    | none => none
def idxD (x i : D) (S : Sto) : Res D :=
  match x, i with
  | .tup ds, .int i => may (atI ds i) fun d => .ok d S
  | .fix ds, .int i => may (atI ds i) fun d => .ok d S
  | .ref a, .int i => match S[a]? with
    | some (.lst ds) => may (atI ds i) fun d => .ok d S
    | none => .bad
  | .str z, .int i => if z.length ≤ sizeLine then may (atI z.cps.toList i) fun c => .ok (.str ⟨#[c]⟩) S else .bad
  | _, _ => .bad
def cutD (ds : List D) (lo hi : Option Int) : List D := (ds.drop (HT.sIx ds.length 0 lo)).take (HT.sIx ds.length ds.length hi - HT.sIx ds.length 0 lo)
def slcD (x : D) (lo hi : Option Int) (S : Sto) : Res D :=
  match x with
  | .tup ds => .ok (.tup (cutD ds lo hi)) S
  | .fix ds => .ok (.ref S.length) (S ++ [.lst (cutD ds lo hi)])
  | .ref a => match S[a]? with
    | some (.lst ds) => .ok (.ref S.length) (S ++ [.lst (cutD ds lo hi)])
    | none => .bad
  | .str z => if z.length ≤ sizeLine then .ok (.str (cutS z lo hi)) S else .bad
  | _ => .bad
/-- a list of the store -/
def withL {α : Type} (S : Sto) (x : D) (f : Nat → List D → Res α) : Res α :=
  match x with
  | .ref a => match S[a]? with
    | some (.lst ds) => f a ds
    | none => .bad
  | _ => .bad
def setD (x i v : D) (S : Sto) : Res Unit := withL S x fun a ds => match i with
  | .int i => may (ixN ds.length i) fun j => .ok () (S.set a (.lst (ds.set j v)))
  | _ => .bad
def appD (x v : D) (S : Sto) : Res D := withL S x fun a ds => if ds.length < sizeLine then .ok .non (S.set a (.lst (ds ++ [v]))) else .bad
def extD (x : D) (r : RV) (S : Sto) : Res D := withL S x fun a ds => may (trOf S r) fun es => if ds.length + es.length ≤ sizeLine then .ok .non (S.set a (.lst (ds ++ es))) else .bad
def popD (x : D) (S : Sto) : Res D := withL S x fun a ds => may ds[ds.length - 1]? fun d => .ok d (S.set a (.lst ds.dropLast))
def popAtD (x i : D) (S : Sto) : Res D := withL S x fun a ds => match i with
  | .int i => if -(2 ^ 63) ≤ i ∧ i < 2 ^ 63 then may (seqIndex? i ds.length) fun k => may ds[k]? fun d => .ok d (S.set a (.lst (ds.eraseIdx k))) else .bad
  | _ => .bad
/-- a target takes a value -/
def setAll : List Nat → List D → En → Option En
  | [], [], ρ => some ρ
  | i :: is, d :: ds, ρ => setAll is ds (ρ.set i (some d))
  | _, _, _ => none
def bindN (g : CN) (d : D) (ρ : En) (S : Sto) : Option En :=
  match g with
  | .nm i => some (ρ.set i (some d))
  | .tup is => (sqOf S (.val d)).bind fun ds => setAll is ds ρ
/-- flows -/
inductive Fl
  | nx (ρ : En)
  | bk (ρ : En)
  | ct (ρ : En)
  | rt (d : D)
/-- what is walked: the items, and whether the walked list must stand still -/
structure Itv where
  items : List D
  at_ : Option Nat
def Itv.still (t : Itv) (S : Sto) : Prop := match t.at_ with
  | none => True
  | some i => S[i]? = some (.lst t.items)
noncomputable def loopQ (C : Sto → Prop) (f : D → Sto → Res (Option D)) : List D → Sto → Res (List D)
  | [], S => ask (C S) (.ok [] S)
  | d :: ds, S => ask (C S) ((f d S).bind fun o S1 => (loopQ C f ds S1).bind fun r S2 => .ok (match o with | some x => x :: r | none => r) S2)
noncomputable def loopS (C : Sto → Prop) (f : D → En → Sto → Res Fl) : List D → En → Sto → Res Fl
  | [], ρ, S => ask (C S) (.ok (.nx ρ) S)
  | d :: ds, ρ, S => ask (C S) ((f d ρ S).bind fun fl S1 => match fl with
    | .nx ρ' => loopS C f ds ρ' S1
    | .ct ρ' => loopS C f ds ρ' S1
    | .bk ρ' => .ok (.nx ρ') S1
    | .rt d => .ok (.rt d) S1)
def whileS (t : En → Sto → Res Bool) (b : En → Sto → Res Fl) : Nat → En → Sto → Res Fl
  | 0, _, _ => .bad
  | n + 1, ρ, S => (t ρ S).bind fun c S1 => if c = true then (b ρ S1).bind fun fl S2 => (match fl with
      | .nx ρ' => whileS t b n ρ' S2
      | .ct ρ' => whileS t b n ρ' S2
      | .bk ρ' => .ok (.nx ρ') S2
      | .rt d => .ok (.rt d) S2) else .ok (.nx ρ) S1
def turns : Nat := 1000000000000
def wipeE (ρ : En) : List Nat → En
  | [] => ρ
  | v :: vs => (wipeE ρ vs).set v none
def rgD (i j : Int) : List D := (List.range (j - i).toNat).map fun k => D.int (i + (k : Nat))
def bd62 (i : Int) : Prop := -(2 ^ 62) ≤ i ∧ i < 2 ^ 62
abbrev Orc := Nat → List D → Sto → Res D
def itOf (r : RV) (S : Sto) : Option Itv := match r with
  | .val (.ref i) => (sqOf S r).map fun ds => ⟨ds, some i⟩
  | r => (sqOf S r).map fun ds => ⟨ds, none⟩
def flatD : D → Bool
  | .non => true
  | .bl _ => true
  | .int _ => true
  | .str _ => true
  | _ => false
def eqF : D → D → Bool
  | .non, .non => true
  | .bl a, .bl b => a == b
  | .bl a, .int b => (if a then 1 else 0) == b
  | .int a, .bl b => a == (if b then 1 else 0)
  | .int a, .int b => a == b
  | .str a, .str b => a == b
  | _, _ => false
def inD (x : D) (r : RV) (S : Sto) : Option Bool := match sqOf S r with
  | some ds => if (flatD x && ds.all flatD) = true then some (ds.any fun y => eqF y x) else (match lsOf S r with
    | some ds => (match toP S x, toPs S ds with
      | some p, some ps => if (SeqAt.shaped p && SeqAt.shaped (.list ps)) = true then some (ps.any fun q => PyData.eqv q p) else none
      | _, _ => none)
    | none => none)
  | none => none
noncomputable def sortD (S : Sto) (ds : List D) : Res (List D) := match toPs S ds with
  | some ps => ask (PySem.W.AllAlike ps ∧ PySem.W.Sortable ps ∧ ∀ p ∈ ps, p.depth ≤ 64) (.ok (ds.mergeSort (PySem.W.dataLe false fun d => (toP S d).getD .none)) S)
  | none => .bad

mutual
noncomputable def evE (C : Orc) : CE → En → Sto → Res D
  | .var i, ρ, S => may ((ρ[i]?).bind id) fun d => .ok d S
  | .lit d, _, S => .ok d S
  | .tup es, ρ, S => (evEs C es ρ S).bind fun ds S1 => ask (ds.length ≤ sizeLine) (.ok (.tup ds) S1)
  | .alloc q, ρ, S => (evQ C q ρ S).bind fun ds S1 => .ok (.ref S1.length) (S1 ++ [.lst ds])
  | .bin o a b, ρ, S => (evE C a ρ S).bind fun x S1 => (evE C b ρ S1).bind fun y S2 => binD o x y S2
  | .neg a, ρ, S => (evE C a ρ S).bind fun x S1 => match x with
    | .int i => .ok (.int (-i)) S1
    | _ => .bad
  | .cmp o a b, ρ, S => (evE C a ρ S).bind fun x S1 => (evE C b ρ S1).bind fun y S2 => cmpD o x y S2
  | .chn o p a b c, ρ, S => (evE C a ρ S).bind fun x S1 => (evE C b ρ S1).bind fun y S2 => (cmpD o x y S2).bind fun z S3 => match z with
    | .bl true => (evE C c ρ S3).bind fun w S4 => cmpD p y w S4
    | .bl false => .ok (.bl false) S3
    | _ => .bad
  | .isN a, ρ, S => (evE C a ρ S).bind fun x S1 => .ok (.bl (isNon x)) S1
  | .notN a, ρ, S => (evE C a ρ S).bind fun x S1 => .ok (.bl (!isNon x)) S1
  | .inr a r, ρ, S => (evE C a ρ S).bind fun x S1 => (evR C r ρ S1).bind fun v S2 => may (inD x v S2) fun b => .ok (.bl b) S2
  | .notInr a r, ρ, S => (evE C a ρ S).bind fun x S1 => (evR C r ρ S1).bind fun v S2 => may (inD x v S2) fun b => .ok (.bl (!b)) S2
  | .and a b, ρ, S => (evE C a ρ S).bind fun x S1 => may (tru S1 x) fun k => if k = true then evE C b ρ S1 else .ok x S1
  | .or a b, ρ, S => (evE C a ρ S).bind fun x S1 => may (tru S1 x) fun k => if k = true then .ok x S1 else evE C b ρ S1
  | .not a, ρ, S => (evE C a ρ S).bind fun x S1 => may (tru S1 x) fun k => .ok (.bl (!k)) S1
  | .ife t a b, ρ, S => (evT C t ρ S).bind fun k S1 => if k = true then evE C a ρ S1 else evE C b ρ S1
  | .idx a i, ρ, S => (evE C a ρ S).bind fun x S1 => (evE C i ρ S1).bind fun y S2 => idxD x y S2
  | .slc a lo hi, ρ, S => (evE C a ρ S).bind fun x S1 => (evO C lo ρ S1).bind fun l S2 => (evO C hi ρ S2).bind fun u S3 => slcD x l u S3
  | .call f es, ρ, S => (evEs C es ρ S).bind fun ds S1 => C f ds S1
  | .fn1 f a, ρ, S => (evE C a ρ S).bind fun x S1 => fn1D f x S1
  | .fn2 f a b, ρ, S => (evE C a ρ S).bind fun x S1 => (evE C b ρ S1).bind fun y S2 => fn2D f x y S2
  | .agg f r, ρ, S => (evR C r ρ S).bind fun v S1 => aggD f v S1
  | .isi a t, ρ, S => (evE C a ρ S).bind fun x S1 => may (tyB t S1 x) fun b => .ok (.bl b) S1
  | .app l x, ρ, S => (evE C l ρ S).bind fun o S1 => withL S1 o fun _ _ => (evE C x ρ S1).bind fun v S2 => appD o v S2
  | .ext l r, ρ, S => (evE C l ρ S).bind fun o S1 => withL S1 o fun _ _ => (evR C r ρ S1).bind fun v S2 => extD o v S2
  | .pop l, ρ, S => (evE C l ρ S).bind fun o S1 => popD o S1
  | .popAt l i, ρ, S => (evE C l ρ S).bind fun o S1 => withL S1 o fun _ _ => (evE C i ρ S1).bind fun v S2 => popAtD o v S2
  | .join s r, ρ, S => (evR C r ρ S).bind fun v S1 => may (sqOf S1 v) fun ds => may (strsOf ds) fun ys => ask ((ys.map (·.length)).sum + ys.length * s.length ≤ 16777216) (.ok (.str (Txt.join s ys)) S1)
noncomputable def evO (C : Orc) : CO → En → Sto → Res (Option Int)
  | .none, _, S => .ok none S
  | .some e, ρ, S => (evE C e ρ S).bind fun x S1 => match x with
    | .int i => .ok (some i) S1
    | _ => .bad
noncomputable def evEs (C : Orc) : CEs → En → Sto → Res (List D)
  | .nil, _, S => .ok [] S
  | .cons a r, ρ, S => (evE C a ρ S).bind fun d S1 => (evEs C r ρ S1).bind fun ds S2 => .ok (d :: ds) S2
noncomputable def evQ (C : Orc) : CQ → En → Sto → Res (List D)
  | .disp es, ρ, S => (evEs C es ρ S).bind fun ds S1 => ask (ds.length ≤ sizeLine) (.ok ds S1)
  | .comp own g it elt, ρ, S => (evI C it ρ S).bind fun t S1 => ask (t.items.length ≤ sizeLine) (loopQ t.still (fun d S2 => may (bindN g d (wipeE ρ own) S2) fun ρ' => (evE C elt ρ' S2).bind fun x S3 => .ok (some x) S3) t.items S1)
  | .compIf own g it c elt, ρ, S => (evI C it ρ S).bind fun t S1 => ask (t.items.length ≤ sizeLine) (loopQ t.still (fun d S2 => may (bindN g d (wipeE ρ own) S2) fun ρ' => (evT C c ρ' S2).bind fun k S3 => if k = true then (evE C elt ρ' S3).bind fun x S4 => .ok (some x) S4 else .ok none S3) t.items S1)
  | .cat a b, ρ, S => (evR C a ρ S).bind fun v S1 => (evR C b ρ S1).bind fun w S2 => may (trOf S2 v) fun x => may (trOf S2 w) fun y => ask (x.length + y.length ≤ sizeLine) (.ok (x ++ y) S2)
  | .sorted r, ρ, S => (evR C r ρ S).bind fun v S1 => may (lsOf S1 v) fun ds => sortD S1 ds
  | .list r, ρ, S => (evR C r ρ S).bind fun v S1 => may (lstOf S1 v) fun ds => .ok ds S1
  | .listRg a b, ρ, S => (evE C a ρ S).bind fun x S1 => (evE C b ρ S1).bind fun y S2 => match x, y with
    | .int i, .int j => ask (RgOk i j) (.ok (rgD i j) S2)
    | _, _ => .bad
  | .rev r, ρ, S => (evR C r ρ S).bind fun v S1 => may (lsOf S1 v) fun ds => .ok ds.reverse S1
noncomputable def evR (C : Orc) : CR → En → Sto → Res RV
  | .q c, ρ, S => (evQ C c ρ S).bind fun ds S1 => .ok (.own ds) S1
  | .e c, ρ, S => (evE C c ρ S).bind fun d S1 => .ok (.val d) S1
noncomputable def evI (C : Orc) : CI → En → Sto → Res Itv
  | .r c, ρ, S => (evR C c ρ S).bind fun v S1 => may (itOf v S1) fun t => .ok t S1
  | .rg a b, ρ, S => (evE C a ρ S).bind fun x S1 => (evE C b ρ S1).bind fun y S2 => match x, y with
    | .int i, .int j => ask (bd62 i ∧ bd62 j) (.ok ⟨rgD i j, none⟩ S2)
    | _, _ => .bad
noncomputable def evT (C : Orc) : CT → En → Sto → Res Bool
  | .v e, ρ, S => (evE C e ρ S).bind fun x S1 => may (tru S1 x) fun k => .ok k S1
  | .and a b, ρ, S => (evT C a ρ S).bind fun k S1 => if k = true then evT C b ρ S1 else .ok false S1
  | .or a b, ρ, S => (evT C a ρ S).bind fun k S1 => if k = true then .ok true S1 else evT C b ρ S1
  | .not a, ρ, S => (evT C a ρ S).bind fun k S1 => .ok (!k) S1
end
mutual
noncomputable def evS (C : Orc) : CS → En → Sto → Res Fl
  | .set g e, ρ, S => (evE C e ρ S).bind fun d S1 => may (bindN g d ρ S1) fun ρ' => .ok (.nx ρ') S1
  | .par i j a b, ρ, S => (evE C a ρ S).bind fun x S1 => (evE C b ρ S1).bind fun y S2 => .ok (.nx ((ρ.set i (some x)).set j (some y))) S2
  | .sub o i e, ρ, S => (evE C e ρ S).bind fun d S1 => (evE C o ρ S1).bind fun x S2 => (evE C i ρ S2).bind fun y S3 => (setD x y d S3).bind fun _ S4 => .ok (.nx ρ) S4
  | .aug i p e, ρ, S => may ((ρ[i]?).bind id) fun x => (evE C e ρ S).bind fun y S1 => (augD p x y S1).bind fun z S2 => .ok (.nx (ρ.set i (some z))) S2
  | .augS o i p e, ρ, S => (evE C o ρ S).bind fun x S1 => (evE C i ρ S1).bind fun y S2 => withL S2 x fun _ ds => match y with
    | .int j => may (atI ds j) fun v => (evE C e ρ S2).bind fun w S4 => (augD p v w S4).bind fun z S5 => (setD x (.int j) z S5).bind fun _ S6 => .ok (.nx ρ) S6
    | _ => .bad
  | .ex e, ρ, S => (evE C e ρ S).bind fun _ S1 => .ok (.nx ρ) S1
  | .ret e, ρ, S => (evE C e ρ S).bind fun d S1 => .ok (.rt d) S1
  | .ite t a b, ρ, S => (evT C t ρ S).bind fun k S1 => if k = true then evSs C a ρ S1 else evSs C b ρ S1
  | .for g it b, ρ, S => (evI C it ρ S).bind fun t S1 => loopS t.still (fun d ρ1 S2 => may (bindN g d ρ1 S2) fun ρ2 => evSs C b ρ2 S2) t.items ρ S1
  | .while t b, ρ, S => whileS (evT C t) (evSs C b) turns ρ S
  | .brk, ρ, S => .ok (.bk ρ) S
  | .cont, ρ, S => .ok (.ct ρ) S
  | .pass, ρ, S => .ok (.nx ρ) S
noncomputable def evSs (C : Orc) : CSs → En → Sto → Res Fl
  | .nil, ρ, S => .ok (.nx ρ) S
  | .cons s r, ρ, S => (evS C s ρ S).bind fun fl S1 => match fl with
    | .nx ρ' => evSs C r ρ' S1
    | f => .ok f S1
end
end PQ

/-! What the language says, the machine does: expressions. -/
namespace L2
open PySem PySem.Spec PyProof.Rows
theorem PE.pq {X : Cx} {e : Expr} {t t' : TE} (h : PE X e t) (q : ∀ σ H Q, t' σ H Q → t σ H Q) : PE X e t' := ⟨fun pins s σ H Q I hw => h.run pins s σ H Q I (q σ H Q hw)⟩
theorem PT.pq {X : Cx} {e : Expr} {t t' : TT} (h : PT X e t) (q : ∀ σ H Q, t' σ H Q → t σ H Q) : PT X e t' := ⟨fun pins s σ H Q I hw => h.run pins s σ H Q I (q σ H Q hw)⟩
theorem PW.pq {X : Cx} {e : Expr} {t t' : TT} (h : PW X e t) (q : ∀ σ H Q, t' σ H Q → t σ H Q) : PW X e t' := ⟨fun w pins s σ H Q I hw => h.run w pins s σ H Q I (q σ H Q hw)⟩
theorem PA.pq {X : Cx} {e : List Expr} {t t' : TA} (h : PA X e t) (q : ∀ σ H Q, t' σ H Q → t σ H Q) : PA X e t' := ⟨fun pos pins s σ H Q I hw => h.run pos pins s σ H Q I (q σ H Q hw)⟩
theorem PO.pq {X : Cx} {e : Option Expr} {t t' : TO} (h : PO X e t) (q : ∀ σ H Q, t' σ H Q → t σ H Q) : PO X e t' := ⟨fun pins s σ H Q I hw => h.run pins s σ H Q I (q σ H Q hw)⟩

end L2

namespace PQ
open PySem PySem.Spec PyProof.Rows L2
abbrev Slots := L2.St

section
variable {K : Fg} {μ μ' μ1 : List Addr} {H H' H1 : Hp} {S S' : Sto} {σ : Slots} {ρ : En} {α β : Type}
/-- an answer, and what is wanted behind it -/
def Po (K : Fg) (μ : List Addr) (H : Hp) (r : Res α) (P : α → Sto → List Addr → Hp → Prop) : Prop := match r with
  | .ok a S' => ∀ μ' H', Ext K μ H μ' H' → StOk K μ' H' S' → P a S' μ' H'
  | _ => False
theorem Po.later {r : Res α} {P : α → Sto → List Addr → Hp → Prop} (e : Ext K μ H μ' H') (h : Po K μ H r P) : Po K μ' H' r P := by
  cases r with
  | ok a S' => exact fun μ2 H2 e2 s2 => h μ2 H2 (e.trans e2) s2
  | exc c fs S' => exact h
  | bad => exact h
theorem Po.imp {r : Res α} {P P' : α → Sto → List Addr → Hp → Prop} (h : Po K μ H r P) (q : ∀ a S' μ' H', r = .ok a S' → Ext K μ H μ' H' → StOk K μ' H' S' → P a S' μ' H' → P' a S' μ' H') : Po K μ H r P' := by
  cases r with
  | ok a S' => exact fun μ2 H2 e2 s2 => q a S' μ2 H2 rfl e2 s2 (h μ2 H2 e2 s2)
  | exc c fs S' => exact h
  | bad => exact h
theorem Po.bind {r : Res α} {f : α → Sto → Res β} {P : β → Sto → List Addr → Hp → Prop} (h : Po K μ H (r.bind f) P) : Po K μ H r fun a S' μ' H' => Po K μ' H' (f a S') P := by
  cases r with
  | ok a S' => exact fun μ2 H2 e2 s2 => Po.later e2 h
  | exc c fs S' => exact h
  | bad => exact h
theorem Po.ask {p : Prop} {r : Res α} {P : α → Sto → List Addr → Hp → Prop} (h : Po K μ H (ask p r) P) : p ∧ Po K μ H r P := by
  unfold PQ.ask at h
  split at h
  · exact ⟨by assumption, h⟩
  · exact h.elim
theorem Po.ite {p : Prop} [Decidable p] {r : Res α} {P : α → Sto → List Addr → Hp → Prop} (h : Po K μ H (if p then r else .bad) P) : p ∧ Po K μ H r P := by
  split at h
  · exact ⟨by assumption, h⟩
  · exact h.elim
theorem Po.may {o : Option β} {f : β → Res α} {P : α → Sto → List Addr → Hp → Prop} (h : Po K μ H (may o f) P) : ∃ a, o = some a ∧ Po K μ H (f a) P := by
  cases o with
  | none => exact h.elim
  | some a => exact ⟨a, rfl, h⟩
theorem Po.at {a : α} {P : α → Sto → List Addr → Hp → Prop} (h : Po K μ H (.ok a S) P) (s : StOk K μ H S) : P a S μ H := h μ H .refl s

/-- the names -/
def EnvOk (K : Fg) (μ : List Addr) (H : Hp) (ρ : En) (σ : Slots) : Prop := σ.length = ρ.length ∧ ∀ (i : Nat) d, ρ[i]? = some (some d) → ∃ v, σ[i]? = some (some v) ∧ Rp K μ H d v
theorem EnvOk.mono (e : Ext K μ H μ' H') (h : EnvOk K μ H ρ σ) : EnvOk K μ' H' ρ σ := ⟨h.1, fun i d q => let ⟨v, e1, e2⟩ := h.2 i d q; ⟨v, e1, e2.mono e⟩⟩
theorem EnvOk.set (h : EnvOk K μ H ρ σ) {d : D} {v : V} (r : Rp K μ H d v) (i : Nat) : EnvOk K μ H (ρ.set i (some d)) (σ.set i (some v)) := by
  refine ⟨by rw [List.length_set, List.length_set]; exact h.1, fun j d' q => ?_⟩
  by_cases hj : i = j
  · subst hj
    by_cases hi : i < ρ.length
    · rw [List.getElem?_set_self hi] at q
      cases q
      exact ⟨v, List.getElem?_set_self (by rw [h.1]; exact hi), r⟩
    · rw [List.getElem?_eq_none (by rw [List.length_set]; omega)] at q
      cases q
  · rw [List.getElem?_set_ne hj] at q ⊢
    exact h.2 j d' q
theorem EnvOk.wipe (h : EnvOk K μ H ρ σ) : ∀ vs : List Nat, EnvOk K μ H (wipeE ρ vs) (wipe σ vs)
  | [] => h
  | v :: vs => by
    have ih := EnvOk.wipe h vs
    refine ⟨by unfold wipeE L2.wipe; rw [List.length_set, List.length_set]; exact ih.1, fun j d q => ?_⟩
    unfold wipeE at q
    unfold L2.wipe
    by_cases hj : v = j
    · subst hj
      by_cases hi : v < (wipeE ρ vs).length
      · rw [List.getElem?_set_self hi] at q; cases q
      · rw [List.getElem?_eq_none (by rw [List.length_set]; omega)] at q; cases q
    · rw [List.getElem?_set_ne hj] at q ⊢
      exact ih.2 j d q

/-- a walked thing as it stands -/
def RvR (K : Fg) (μ : List Addr) (H : Hp) : RV → V → Prop
  | .own ds, v => ∃ a vs, v = .ref a ∧ H a = some (.lst vs) ∧ a ∉ μ ∧ RpA K μ H ds vs ∧ ds.length ≤ sizeLine
  | .val d, v => Rp K μ H d v
theorem Ext.notin (e : Ext K μ H μ' H') {a : Addr} {o : HO} (h : H a = some o) (n : a ∉ μ) : a ∉ μ' := by
  obtain ⟨l, rfl, q⟩ := e.pre
  intro m
  rcases List.mem_append.mp m with m | m
  · exact n m
  · rw [q a m] at h; cases h
theorem RvR.mono (e : Ext K μ H μ' H') {r : RV} {v : V} (h : RvR K μ H r v) : RvR K μ' H' r v := by
  cases r with
  | own ds =>
    obtain ⟨a, vs, h1, h2, h3, h4, h5⟩ := h
    exact ⟨a, vs, h1, e.fr a _ h2 h3, e.notin h2 h3, h4.mono e, h5⟩
  | val d => exact Rp.mono e h

/-! ### readings -/
def tE (K : Fg) (f : En → Sto → Res D) : TE := fun σ H Q => ∃ μ ρ S, EnvOk K μ H ρ σ ∧ StOk K μ H S ∧ Po K μ H (f ρ S) fun d _ μ' H' => ∀ v, Rp K μ' H' d v → Q v H'
def tT (K : Fg) (f : En → Sto → Res Bool) : TT := fun σ H Q => ∃ μ ρ S, EnvOk K μ H ρ σ ∧ StOk K μ H S ∧ Po K μ H (f ρ S) fun b _ _ H' => Q b H'
def tA (K : Fg) (f : En → Sto → Res (List D)) : TA := fun σ H Q => ∃ μ ρ S, EnvOk K μ H ρ σ ∧ StOk K μ H S ∧ Po K μ H (f ρ S) fun ds _ μ' H' => ∀ vs, RpA K μ' H' ds vs → Q vs H'
def tQ (K : Fg) (f : En → Sto → Res (List D)) : TE := fun σ H Q => ∃ μ ρ S, EnvOk K μ H ρ σ ∧ StOk K μ H S ∧ Po K μ H (f ρ S) fun ds _ μ' H' => ∀ a vs, H a = none → H' a = some (.lst vs) → a ∉ μ' → RpA K μ' H' ds vs → ds.length ≤ sizeLine → Q (.ref a) H'
def tR (K : Fg) (f : En → Sto → Res RV) : TE := fun σ H Q => ∃ μ ρ S, EnvOk K μ H ρ σ ∧ StOk K μ H S ∧ Po K μ H (f ρ S) fun r _ μ' H' => ∀ v, RvR K μ' H' r v → Q v H'
def tO (K : Fg) (f : En → Sto → Res (Option Int)) : TO := fun σ H Q => ∃ μ ρ S, EnvOk K μ H ρ σ ∧ StOk K μ H S ∧ Po K μ H (f ρ S) fun o _ _ H' => Q o H'

/-- a def's promise: what the oracle says of it -/
def spC (K : Fg) (C : Orc) (f : Nat) : Sp := fun vs H Q _ => ∃ μ ds S, StOk K μ H S ∧ RpA K μ H ds vs ∧ Po K μ H (C f ds S) fun d _ μ' H' => ∀ v, Rp K μ' H' d v → Q v H'

/-- what a module's name stands for: a value that stays, a built-in function -/
inductive Gv
  | con (d : D)
  | fn (id : String)
def GvOk (K : Fg) (mg : Str → Option Value) (x : Str) : Gv → Prop
  | .con d => ∃ v u, mg x = some u ∧ RelV v u ∧ ∀ μ H, Rp K μ H d v
  | .fn id => mg x = some (.builtin id)
/-- the place where a text stands: the defs' names, the built-ins' names, the def's names, its scope, the module's other names -/
structure Pl where
  T : List Str
  B : List Str
  N : List Str
  sc : Scope
  G : List (Str × Gv)
structure Good (X : Cx) (p : Pl) (C : Orc) : Prop where
  calm : X.calm = true
  nd : X.N.Nodup
  un : X.A.units + 80 < cLine
  own : PassesOwn (model X.prog X.w) X.A X.env X.xe
  N : X.N = p.N
  sc : X.env.scope = p.sc
  blt : ∀ x, x ∈ p.B → X.mg x = none
  glb : ∀ x g, (x, g) ∈ p.G → GvOk X.K X.mg x g
  fn : ∀ (i : Nat) x, p.T[i]? = some x → ∃ f fd ps k, X.mg x = some (.ref f) ∧ FnOk X.prog X.w X.K X.mg X.base CX0 k f fd ps (spC X.K C i) ∧ Room k X.A ∧ PySem.W.keepIn X.K (.ref f) = true ∧ Binds X.K fd ps []
end

/-! ### the judgements -/
def SdE (p : Pl) (e : Expr) (c : CE) : Prop := ∀ X C, Good X p C → PE X e (tE X.K (evE C c))
def SdT (p : Pl) (e : Expr) (c : CT) : Prop := ∀ X C, Good X p C → PT X e (tT X.K (evT C c))
def SdW (p : Pl) (e : Expr) (c : CT) : Prop := ∀ X C, Good X p C → PW X e (tT X.K (evT C c))
def SdA (p : Pl) (es : List Expr) (c : CEs) : Prop := ∀ X C, Good X p C → PA X es (tA X.K (evEs C c))
def SdQ (p : Pl) (e : Expr) (c : CQ) : Prop := ∀ X C, Good X p C → PE X e (tQ X.K (evQ C c))
def SdR (p : Pl) (e : Expr) (c : CR) : Prop := ∀ X C, Good X p C → PE X e (tR X.K (evR C c))
def SdO (p : Pl) (e : Option Expr) (c : CO) : Prop := ∀ X C, Good X p C → PO X e (tO X.K (evO C c))

section
variable {p : Pl} {a b c e : Expr} {ca cb cc : CE} {pos : Pos}
/-! ### names, constants -/
theorem sd_var {i : Nat} {x : Str} (hN : p.N[i]? = some x) (hv : Vis p.sc x) (hd : (x == ("__debug__" : Str)) = false) (hcd : (x == ("__classdict__" : Str)) = false) : SdE p (.Name x pos) (.var i) := fun X C g =>
  (pe_var (i := i) (by rw [g.N]; exact hN) (by rw [g.sc]; exact hv) hd hcd).pq fun σ H Q ⟨μ, ρ, S, he, hs, h⟩ => by
    unfold evE at h
    obtain ⟨d, e1, h⟩ := h.may
    have e2 : ρ[i]? = some (some d) := by
      cases q : ρ[i]? with
      | none => rw [q] at e1; cases e1
      | some o => rw [q] at e1; exact congrArg some e1
    obtain ⟨v, q1, q2⟩ := he.2 i d e2
    exact ⟨v, q1, h.at hs v q2⟩
theorem sd_lit {d : D} {v : V} (h : ∀ X : Cx, PE X e (tC v)) (r : ∀ K μ H, Rp K μ H d v) : SdE p e (.lit d) := fun X C g =>
  (h X).pq fun σ H Q ⟨μ, ρ, S, he, hs, h⟩ => by
    unfold evE at h
    exact h.at hs v (r _ _ _)
theorem sd_int {i j} : SdE p (.Constant (.int i) j pos) (.lit (.int i)) := sd_lit (v := .int i) (fun _ => pe_int) fun _ _ _ => rfl
theorem sd_bl {i j} : SdE p (.Constant (.bool i) j pos) (.lit (.bl i)) := sd_lit (v := .bl i) (fun _ => pe_bl) fun _ _ _ => rfl
theorem sd_non {j} : SdE p (.Constant .none j pos) (.lit .non) := sd_lit (v := .non) (fun _ => pe_non) fun _ _ _ => rfl
theorem sd_str {x j} : SdE p (.Constant (.str x) j pos) (.lit (.str x)) := sd_lit (v := .str x) (fun _ => pe_str) fun _ _ _ => rfl

/-! ### argument lists, displays -/
theorem sa_nil : SdA p [] .nil := fun X C g => pa_nil.pq fun σ H Q ⟨μ, ρ, S, he, hs, h⟩ => by
  unfold evEs at h
  exact h.at hs [] rfl
theorem sa_cons {es : List Expr} {r : CEs} (ha : SdE p a ca) (hr : SdA p es r) (hs : ∀ env, starEach (a :: es) env = (false, eval a env) :: starEach es env) : SdA p (a :: es) (.cons ca r) := fun X C g =>
  (pa_cons (ha X C g) (hr X C g) (hs _)).pq fun σ H Q ⟨μ, ρ, S, he, hs, h⟩ => by
    unfold evEs at h
    refine ⟨μ, ρ, S, he, hs, h.bind.imp fun d S1 μ1 H1 _ e1 s1 h1 v rv => ?_⟩
    refine ⟨μ1, ρ, S1, he.mono e1, s1, h1.bind.imp fun ds S2 μ2 H2 _ e2 s2 h2 vs rvs => ?_⟩
    exact h2.at s2 (v :: vs) (.cons (rv.mono e2) rvs)
theorem sd_tup {es : List Expr} {c : CEs} {k : Nat} (h : SdA p es c) : SdE p (.Tuple es k pos) (.tup c) := fun X C g =>
  (pe_tup (h X C g)).pq fun σ H Q ⟨μ, ρ, S, he, hs, h⟩ => by
    unfold evE at h
    refine ⟨μ, ρ, S, he, hs, h.bind.imp fun ds S1 μ1 H1 _ e1 s1 h1 vs rvs => ?_⟩
    obtain ⟨z, h1⟩ := h1.ask
    refine ⟨by rw [← rvs.length]; exact z, fun q hq => ?_⟩
    exact h1 μ1 _ (s1.fresh hq _) (s1.freshOk hq _) (.ref q) ⟨q, vs, rfl, .of upd_same, rvs.mono (s1.fresh hq _), z⟩
theorem sq_disp {es : List Expr} {c : CEs} (h : SdA p es c) : SdQ p (.List es pos) (.disp c) := fun X C g =>
  (pe_lst (h X C g)).pq fun σ H Q ⟨μ, ρ, S, he, hs, h⟩ => by
    unfold evQ at h
    refine ⟨μ, ρ, S, he, hs, h.bind.imp fun ds S1 μ1 H1 _ e1 s1 h1 vs rvs => ?_⟩
    obtain ⟨z, h1⟩ := h1.ask
    refine ⟨by rw [← rvs.length]; exact z, fun q hq => ?_⟩
    refine h1 μ1 _ (s1.fresh hq _) (s1.freshOk hq _) q vs (e1.alive _ hq) upd_same (fun m => ?_) (rvs.mono (s1.fresh hq _)) z
    obtain ⟨u, e, _⟩ := s1.mem m
    rw [hq] at e; cases e
/-- a new list goes into the store -/
theorem sd_alloc {q : CQ} (h : SdQ p e q) : SdE p e (.alloc q) := fun X C g => (h X C g).pq fun σ H Q ⟨μ, ρ, S, he, hs, h⟩ => by
  unfold evE at h
  refine ⟨μ, ρ, S, he, hs, ?_⟩
  generalize evQ C q ρ S = r at h
  cases r with
  | ok ds S1 =>
    intro μ1 H1 e1 s1 a vs hn ha hm rvs hz
    refine h (μ1 ++ [a]) H1 (e1.take hn) (s1.take hm ha rvs hz) (.ref a) ⟨a, rfl, ?_⟩
    rw [← s1.len, List.getElem?_append_right (Nat.le_refl _), Nat.sub_self]
    rfl
  | exc c fs S' => exact h
  | bad => exact h
theorem sr_q {q : CQ} (h : SdQ p e q) : SdR p e (.q q) := fun X C g => (h X C g).pq fun σ H Q ⟨μ, ρ, S, he, hs, h⟩ => by
  unfold evR at h
  exact ⟨μ, ρ, S, he, hs, h.bind.imp fun ds S1 μ1 H1 _ e1 s1 h1 a vs hn ha hm rvs hz => h1.at s1 (.ref a) ⟨a, vs, rfl, ha, hm, rvs, hz⟩⟩
theorem sr_e (h : SdE p e ca) : SdR p e (.e ca) := fun X C g => (h X C g).pq fun σ H Q ⟨μ, ρ, S, he, hs, h⟩ => by
  unfold evR at h
  exact ⟨μ, ρ, S, he, hs, h.bind.imp fun d S1 μ1 H1 _ e1 s1 h1 v rv => h1.at s1 v rv⟩

/-! ### operators -/
/-- an operator of two values, by what it says of data -/
def OpS (g : D → D → Sto → Res D) (r : Fg → R2) : Prop := ∀ (K : Fg) (μ : List Addr) (H : Hp) (S : Sto) (x y : D) (v u : V) (Q : VK), StOk K μ H S → Rp K μ H x v → Rp K μ H y u → Po K μ H (g x y S) (fun d _ μ' H' => ∀ v, Rp K μ' H' d v → Q v H') → r K v u H Q
theorem tOp_imp {g : D → D → Sto → Res D} {r : Fg → R2} (hg : OpS g r) {K : Fg} {fa fb : En → Sto → Res D} {σ : Slots} {H : Hp} {Q : VK}
    (h : tE K (fun ρ S => (fa ρ S).bind fun x S1 => (fb ρ S1).bind fun y S2 => g x y S2) σ H Q) : tOp (r K) (tE K fa) (tE K fb) σ H Q := by
  obtain ⟨μ, ρ, S, he, hs, h⟩ := h
  refine ⟨μ, ρ, S, he, hs, h.bind.imp fun x S1 μ1 H1 _ e1 s1 h1 v rv => ?_⟩
  refine ⟨μ1, ρ, S1, he.mono e1, s1, h1.bind.imp fun y S2 μ2 H2 _ e2 s2 h2 u ru => ?_⟩
  exact hg K μ2 H2 S2 x y v u Q s2 (rv.mono e2) ru h2
theorem sd_bin {o : Bop} {op : Operator} {r : Fg → R2} (ho : ∀ X C, Good X p C → OpR X (binaryOp op) (r X.K)) (hg : OpS (binD o) r) (ha : SdE p a ca) (hb : SdE p b cb) : SdE p (.BinOp a op b pos) (.bin o ca cb) := fun X C g =>
  (pe_op (ho X C g) (ha X C g) (hb X C g)).pq fun σ H Q h => tOp_imp hg (by
    obtain ⟨μ, ρ, S, he, hs, h⟩ := h
    unfold evE at h
    exact ⟨μ, ρ, S, he, hs, h⟩)
theorem sd_cmp {o : Cop} {op : CmpOp} {r : Fg → R2} (ho : ∀ X C, Good X p C → OpR X (compareOp op) (r X.K)) (hg : OpS (cmpD o) r) (h1 : op ≠ .In) (h2 : op ≠ .NotIn) (ha : SdE p a ca) (hb : SdE p b cb) : SdE p (.Compare a [op] [b] pos) (.cmp o ca cb) := fun X C g =>
  (pe_cmpR (ho X C g) (ha X C g) (hb X C g) (nomark b h1 h2)).pq fun σ H Q h => tOp_imp hg (by
    obtain ⟨μ, ρ, S, he, hs, h⟩ := h
    unfold evE at h
    exact ⟨μ, ρ, S, he, hs, h⟩)

/-! the operators one by one -/
section
variable {K : Fg} {μ : List Addr} {H : Hp} {S : Sto} {x y d : D} {v u : V} {Q : VK}
theorem rp_tup {ds : List D} {p : Addr} {vs : List V} (hs : StOk K μ H S) (hz : ds.length ≤ sizeLine) (r : RpA K μ H ds vs) (hp : H p = none) : Rp K μ (upd H p (.tup vs)) (.tup ds) (.ref p) :=
  ⟨p, vs, rfl, .of upd_same, r.mono (hs.fresh hp _), hz⟩
/-- a new list at p that the store takes up -/
theorem take_new {ds : List D} {p : Addr} {vs : List V} (hs : StOk K μ H S) (hz : ds.length ≤ sizeLine) (r : RpA K μ H ds vs) (hp : H p = none) :
    Ext K μ H (μ ++ [p]) (upd H p (.lst vs)) ∧ StOk K (μ ++ [p]) (upd H p (.lst vs)) (S ++ [.lst ds]) ∧ Rp K (μ ++ [p]) (upd H p (.lst vs)) (.ref S.length) (.ref p) := by
  refine ⟨(hs.fresh hp _).take hp, (hs.freshOk hp _).take (fun m => ?_) upd_same (r.mono (hs.fresh hp _)) hz, p, rfl, ?_⟩
  · obtain ⟨w, e, _⟩ := hs.mem m
    rw [hp] at e; cases e
  · rw [← hs.len, List.getElem?_append_right (Nat.le_refl _), Nat.sub_self]
    rfl
theorem rp_ref {i : Nat} (r : Rp K μ H (.ref i) v) (hs : StOk K μ H S) {ds : List D} (e : S[i]? = some (.lst ds)) : ∃ a vs, v = .ref a ∧ μ[i]? = some a ∧ H a = some (.lst vs) ∧ RpA K μ H ds vs ∧ ds.length ≤ sizeLine := by
  obtain ⟨a, rfl, ea⟩ := r
  obtain ⟨vs, h1, h2, h3⟩ := hs.lst e ea
  exact ⟨a, vs, rfl, ea, h1, h2, h3⟩
end
end
end PQ

/-! The operators, subscripts, built-ins. -/
namespace PQ
open PySem PySem.Spec PyProof.Rows L2
section
variable {p : Pl} {a b c e : Expr} {ca cb cc : CE} {pos : Pos}
/-! ### arithmetic -/
theorem os_int {o : Bop} {g : Int → Int → Int} {C : Int → Int → Prop} (h1 : ∀ i j S, binD o (.int i) (.int j) S = ask (C i j) (.ok (.int (g i j)) S)) (h2 : ∀ x y S, (∀ i j, ¬ (x = .int i ∧ y = .int j)) → binD o x y S = .bad) : OpS (binD o) fun _ => rI C fun i j => .int (g i j) := by
  intro K μ H S x y v u Q hs rx ry h
  by_cases hc : ∃ i j, x = .int i ∧ y = .int j
  · obtain ⟨i, j, rfl, rfl⟩ := hc
    rw [h1] at h
    obtain ⟨hc, h⟩ := h.ask
    exact ⟨i, j, rx, ry, hc, h.at hs _ rfl⟩
  · rw [h2 x y S (fun i j z => hc ⟨i, j, z⟩)] at h
    exact h.elim
theorem os_int0 {o : Bop} {g : Int → Int → Int} (h1 : ∀ i j S, binD o (.int i) (.int j) S = .ok (.int (g i j)) S) (h2 : ∀ x y S, (∀ i j, ¬ (x = .int i ∧ y = .int j)) → binD o x y S = .bad) : OpS (binD o) fun _ => rI0 fun i j => .int (g i j) := by
  intro K μ H S x y v u Q hs rx ry h
  by_cases hc : ∃ i j, x = .int i ∧ y = .int j
  · obtain ⟨i, j, rfl, rfl⟩ := hc
    rw [h1] at h
    exact ⟨i, j, rx, ry, h.at hs _ rfl⟩
  · rw [h2 x y S (fun i j z => hc ⟨i, j, z⟩)] at h
    exact h.elim
/-- the other cases of an operator of ints -/
theorem bin_else (o : Bop) (ho : (match o with | .add => false | .mul => false | _ => true) = true) (x y : D) (S : Sto) (h : ∀ i j, ¬ (x = .int i ∧ y = .int j)) : binD o x y S = .bad := by
  cases o <;> first | (cases ho; done) | (cases x <;> cases y <;> first | rfl | exact absurd ⟨rfl, rfl⟩ (h _ _))
def rAdd4 (K : Fg) : R2 := fun x y H Q => rI0 (fun i j => .int (i + j)) x y H Q ∨ ((∃ i j, x = .str i ∧ y = .str j ∧ i.length + j.length ≤ sizeLine ∧ Q (.str (i ++ j)) H) ∨ (rCatA K x y H Q ∨ rCat x y H Q))
theorem os_add : OpS (binD .add) rAdd4 := by
  intro K μ H S x y v u Q hs rx ry h
  cases x with
  | int i =>
    cases y with
    | int j => exact .inl ⟨i, j, rx, ry, h.at hs _ rfl⟩
    | _ => exact (show False from h).elim
  | str i =>
    cases y with
    | str j =>
      obtain ⟨z, h⟩ := Po.ask h
      exact .inr (.inl ⟨i, j, rx, ry, z, h.at hs _ rfl⟩)
    | _ => exact (show False from h).elim
  | tup ds =>
    cases y with
    | tup es =>
      obtain ⟨z, h⟩ := Po.ask h
      obtain ⟨q1, vs, rfl, ha, ra, za⟩ := rx
      obtain ⟨q2, us, rfl, hb, rb, zb⟩ := ry
      refine .inr (.inr (.inl ⟨q1, q2, vs, us, rfl, rfl, ha, hb, by rw [← ra.length, ← rb.length]; exact z, fun e => ?_, fun _ e => ?_, fun _ _ p hp => ?_⟩))
      · refine h.at hs _ ?_
        have : ds = [] := List.eq_nil_of_length_eq_zero (by rw [ra.length, e]; rfl)
        subst this
        exact ⟨q2, us, rfl, hb, rb, zb⟩
      · refine h.at hs _ ?_
        have : es = [] := List.eq_nil_of_length_eq_zero (by rw [rb.length, e]; rfl)
        subst this
        rw [List.append_nil]
        exact ⟨q1, vs, rfl, ha, ra, za⟩
      · exact h μ _ (hs.fresh hp _) (hs.freshOk hp _) _ (rp_tup hs (by rw [List.length_append]; exact z) (ra.append rb) hp)
    | _ => exact (show False from h).elim
  | ref i =>
    cases y with
    | ref j =>
      have h : Po K μ H (match S[i]?, S[j]? with
        | some (.lst a), some (.lst b) => ask (a.length + b.length ≤ sizeLine) (Res.ok (D.ref S.length) (S ++ [Ob.lst (a ++ b)]))
        | _, _ => Res.bad) _ := h
      cases ei : S[i]? with
      | none => rw [ei] at h; exact (show False from h).elim
      | some o =>
        cases ej : S[j]? with
        | none => rw [ei, ej] at h; cases o; exact (show False from h).elim
        | some o' =>
          rw [ei, ej] at h
          cases o with
          | lst ds =>
            cases o' with
            | lst es =>
              obtain ⟨z, h⟩ := Po.ask h
              obtain ⟨q1, vs, rfl, _, ha, ra, _⟩ := rp_ref rx hs ei
              obtain ⟨q2, us, rfl, _, hb, rb, _⟩ := rp_ref ry hs ej
              refine .inr (.inr (.inr ⟨q1, q2, vs, us, rfl, rfl, ha, hb, by rw [← ra.length, ← rb.length]; exact z, fun p hp => ?_⟩))
              obtain ⟨e1, s1, r1⟩ := take_new hs (by rw [List.length_append]; exact z) (ra.append rb) hp
              exact h _ _ e1 s1 _ r1
    | _ => exact (show False from h).elim
  | _ => exact (show False from h).elim
theorem sd_add (ha : SdE p a ca) (hb : SdE p b cb) : SdE p (.BinOp a .Add b pos) (.bin .add ca cb) := sd_bin (fun X C g => op_add.or (op_add_str.or (op_catA.or op_cat))) os_add ha hb
theorem sd_sub (ha : SdE p a ca) (hb : SdE p b cb) : SdE p (.BinOp a .Sub b pos) (.bin .sub ca cb) := sd_bin (fun X C g => op_sub) (os_int0 (fun _ _ _ => rfl) (bin_else .sub rfl)) ha hb
theorem opI' {X : Cx} {f : Value → Value → Sem Value} {C : Int → Int → Prop} {g : Int → Int → Int} (h : ∀ i j t u (Q : Value → Shared → Prop) s, C i j → (∀ t', Q (.int (g i j) t') { s with toks := s.toks + 1 }) → wpAny (model X.prog X.w) X.A (f (.int i t) (.int j u)) Q X.xe s) : OpR X f (rI C fun i j => .int (g i j)) := by
  intro pins s σ H x y v u Q I rx ry q
  obtain ⟨i, j, rfl, rfl, hc, q⟩ := q
  obtain ⟨t, rfl⟩ := rx
  obtain ⟨t', rfl⟩ := ry
  exact h i j t t' _ s hc fun t2 => ⟨.int _, H, I.tok _, ⟨_, rfl⟩, q⟩
def rMul2 : R2 := fun x y H Q => rI IntMulOk (fun i j => .int (i * j)) x y H Q ∨ rRep x y H Q
theorem os_mul : OpS (binD .mul) fun _ => rMul2 := by
  intro K μ H S x y v u Q hs rx ry h
  cases x with
  | int i =>
    cases y with
    | int j =>
      obtain ⟨z, h⟩ := Po.ask h
      exact .inl ⟨i, j, rx, ry, z, h.at hs _ rfl⟩
    | _ => exact (show False from h).elim
  | ref i =>
    cases y with
    | int k =>
      have h : Po K μ H (match S[i]? with
        | some (.lst a) => ask (-(2 ^ 63) ≤ k ∧ k < 2 ^ 63 ∧ a.length * k.toNat ≤ sizeLine) (Res.ok (D.ref S.length) (S ++ [Ob.lst (List.replicate k.toNat a).flatten]))
        | none => Res.bad) _ := h
      cases ei : S[i]? with
      | none => rw [ei] at h; exact (show False from h).elim
      | some o =>
        rw [ei] at h
        cases o with
        | lst ds =>
          obtain ⟨⟨k1, k2, z⟩, h⟩ := Po.ask h
          obtain ⟨q1, vs, rfl, _, ha, ra, _⟩ := rp_ref rx hs ei
          refine .inr ⟨q1, k, vs, rfl, ry, ha, k1, k2, by rw [← ra.length]; exact z, fun p hp => ?_⟩
          have rep : ∀ n : Nat, RpA K μ H (List.replicate n ds).flatten (List.replicate n vs).flatten := fun n => by
            induction n with
            | zero => exact .nil
            | succ n ih =>
              rw [List.replicate_succ, List.replicate_succ, List.flatten_cons, List.flatten_cons]
              exact ra.append ih
          have zl : (List.replicate k.toNat ds).flatten.length ≤ sizeLine := by
            rw [List.length_flatten, List.map_replicate, List.sum_replicate_nat, Nat.mul_comm]
            exact z
          obtain ⟨e1, s1, r1⟩ := take_new hs zl (rep k.toNat) hp
          exact h _ _ e1 s1 _ r1
    | _ => exact (show False from h).elim
  | _ => exact (show False from h).elim
theorem sd_mul (ha : SdE p a ca) (hb : SdE p b cb) : SdE p (.BinOp a .Mult b pos) (.bin .mul ca cb) := sd_bin (r := fun _ => rMul2) (fun X C g => (opI' fun _ _ _ _ _ _ hc q => mul_int (q _) hc).or op_rep) os_mul ha hb
theorem sd_fdiv (ha : SdE p a ca) (hb : SdE p b cb) : SdE p (.BinOp a .FloorDiv b pos) (.bin .fdiv ca cb) :=
  sd_bin (r := fun _ => rI FDivOk fun i j => .int (i.fdiv j)) (fun X C g => opI' fun _ _ _ _ _ _ hc q => floordiv_int hc.1 (q _) (.inl hc.2)) (os_int (fun _ _ _ => rfl) (bin_else .fdiv rfl)) ha hb
theorem sd_mod (ha : SdE p a ca) (hb : SdE p b cb) : SdE p (.BinOp a .Mod b pos) (.bin .mod ca cb) :=
  sd_bin (r := fun _ => rI (fun _ j => j ≠ 0) fun i j => .int (i.fmod j)) (fun X C g => op_modN) (os_int (C := fun _ j => j ≠ 0) (fun _ _ _ => rfl) (bin_else .mod rfl)) ha hb
theorem sd_pow (ha : SdE p a ca) (hb : SdE p b cb) : SdE p (.BinOp a .Pow b pos) (.bin .pow ca cb) :=
  sd_bin (r := fun _ => rI CPow fun i j => .int (i ^ j.toNat)) (fun X C g => op_pow) (os_int (C := CPow) (fun _ _ _ => rfl) (bin_else .pow rfl)) ha hb
theorem sd_shl (ha : SdE p a ca) (hb : SdE p b cb) : SdE p (.BinOp a .LShift b pos) (.bin .shl ca cb) :=
  sd_bin (r := fun _ => rI CPow fun i j => .int (i * 2 ^ j.toNat)) (fun X C g => op_shl) (os_int (C := CPow) (fun _ _ _ => rfl) (bin_else .shl rfl)) ha hb
theorem sd_shr (ha : SdE p a ca) (hb : SdE p b cb) : SdE p (.BinOp a .RShift b pos) (.bin .shr ca cb) :=
  sd_bin (r := fun _ => rI (fun _ j => 0 ≤ j) fun i j => .int (i / 2 ^ j.toNat)) (fun X C g => op_shr) (os_int (C := fun _ j => 0 ≤ j) (fun _ _ _ => rfl) (bin_else .shr rfl)) ha hb
theorem sd_band (ha : SdE p a ca) (hb : SdE p b cb) : SdE p (.BinOp a .BitAnd b pos) (.bin .band ca cb) := sd_bin (fun X C g => op_and) (os_int0 (fun _ _ _ => rfl) (bin_else .band rfl)) ha hb
theorem sd_bor (ha : SdE p a ca) (hb : SdE p b cb) : SdE p (.BinOp a .BitOr b pos) (.bin .bor ca cb) := sd_bin (fun X C g => op_or) (os_int0 (fun _ _ _ => rfl) (bin_else .bor rfl)) ha hb
theorem sd_bxor (ha : SdE p a ca) (hb : SdE p b cb) : SdE p (.BinOp a .BitXor b pos) (.bin .bxor ca cb) := sd_bin (fun X C g => op_xor) (os_int0 (fun _ _ _ => rfl) (bin_else .bxor rfl)) ha hb
theorem sd_neg (ha : SdE p a ca) : SdE p (.UnaryOp .USub a pos) (.neg ca) := fun X C g => (pe_un un_neg (ha X C g)).pq fun σ H Q ⟨μ, ρ, S, he, hs, h⟩ => by
  unfold evE at h
  refine ⟨μ, ρ, S, he, hs, h.bind.imp fun x S1 μ1 H1 _ e1 s1 h1 v rv => ?_⟩
  cases x with
  | int i => exact ⟨i, rv, h1.at s1 _ rfl⟩
  | _ => exact (show False from h1).elim

/-! ### comparisons -/
section
variable {K : Fg} {μ : List Addr} {H : Hp} {S : Sto}
theorem refP_dp (hs : StOk K μ H S) : ∀ (n i : Nat) (a : Addr) (q : PyData), μ[i]? = some a → refP S n i = some q → Dp K H (.ref a) q
  | 0, _, _, _, _, h => by cases h
  | n + 1, i, a, q, ea, h => by
    have h : (match S[i]? with
      | some (Ob.lst ds) => (toPsW (refP S n) ds).map PyData.list
      | none => none) = some q := h
    cases ei : S[i]? with
    | none => rw [ei] at h; cases h
    | some o =>
      rw [ei] at h
      cases o with
      | lst ds =>
        obtain ⟨vs, h1, h2, _⟩ := hs.lst ei ea
        cases e : toPsW (refP S n) ds with
        | none => have h : (toPsW (refP S n) ds).map PyData.list = some q := h; rw [e] at h; cases h
        | some qs =>
          have h : (toPsW (refP S n) ds).map PyData.list = some q := h
          rw [e] at h
          cases h
          exact .lst (.of h1) (go hs n ds vs qs h2 e)
where
  go (hs : StOk K μ H S) (n : Nat) : ∀ (ds : List D) (vs : List V) (qs : List PyData), RpA K μ H ds vs → toPsW (refP S n) ds = some qs → DpAll K H vs qs
    | [], _, _, r, h => by
      cases h
      rw [show _ = ([] : List V) from r]
      exact .nil
    | d :: ds, _, qs, ⟨v, r, h1, h2, h3⟩, h => by
      have h : (match toPW (refP S n) d, toPsW (refP S n) ds with
        | some p, some ps => some (p :: ps)
        | _, _ => none) = some qs := h
      cases e1 : toPW (refP S n) d with
      | none => rw [e1] at h; cases h
      | some q1 =>
        cases e2 : toPsW (refP S n) ds with
        | none => rw [e1, e2] at h; cases h
        | some q2 =>
          rw [e1, e2] at h
          cases h
          rw [h1]
          exact .cons (one hs n d v q1 h2 e1) (go hs n ds r q2 h3 e2)
  one (hs : StOk K μ H S) (n : Nat) : ∀ (d : D) (v : V) (q : PyData), Rp K μ H d v → toPW (refP S n) d = some q → Dp K H v q
    | .non, _, _, r, h => by cases h; rw [show _ = V.non from r]; exact .non
    | .bl b, _, _, r, h => by cases h; rw [show _ = V.bl b from r]; exact .bl b
    | .int i, _, _, r, h => by cases h; rw [show _ = V.int i from r]; exact .int i
    | .str x, _, _, r, h => by cases h; rw [show _ = V.str x from r]; exact .str x
    | .tup ds, _, q, ⟨a, vs, e, h1, h2, _⟩, h => by
      have h : (toPsW (refP S n) ds).map PyData.tuple = some q := h
      cases e1 : toPsW (refP S n) ds with
      | none => rw [e1] at h; cases h
      | some qs =>
        rw [e1] at h
        cases h
        rw [e]
        exact .tup h1 (go hs n ds vs qs h2 e1)
    | .fix ds, _, q, ⟨a, vs, e, h1, h2, _⟩, h => by
      have h : (toPsW (refP S n) ds).map PyData.list = some q := h
      cases e1 : toPsW (refP S n) ds with
      | none => rw [e1] at h; cases h
      | some qs =>
        rw [e1] at h
        cases h
        rw [e]
        exact .lst h1.sq (go hs n ds vs qs h2 e1)
    | .ref i, _, q, ⟨a, e, ea⟩, h => by
      rw [e]
      exact refP_dp hs n i a q ea h
theorem toP_dp (hs : StOk K μ H S) {d : D} {v : V} {q : PyData} (r : Rp K μ H d v) (h : toP S d = some q) : Dp K H v q := refP_dp.one hs 8 d v q r h
theorem toPs_dp (hs : StOk K μ H S) {ds : List D} {vs : List V} {qs : List PyData} (r : RpA K μ H ds vs) (h : toPs S ds = some qs) : DpAll K H vs qs := refP_dp.go hs 8 ds vs qs r h
end
section
variable {K : Fg} {μ : List Addr} {H : Hp} {S : Sto} {x y : D} {v u : V}
theorem scal_rp (rx : Rp K μ H x v) (ry : Rp K μ H y u) (h : scalD x y = true) : scal v u = true ∧ decide (v = u) = eqSc x y := by
  cases x <;> cases y <;> first
    | (cases h; done)
    | (cases rx; cases ry; refine ⟨rfl, ?_⟩; simp [eqSc])
/-- == and != of data -/
def rEq2 (K : Fg) (neg : Bool) : R2 := fun x y H Q => (scal x y = true ∧ Q (.bl (if neg then !decide (x = y) else decide (x = y))) H) ∨ ∃ d e, Dp K H x d ∧ Dp K H y e ∧ SeqAt.shaped d = true ∧ SeqAt.shaped e = true ∧ Q (.bl (if neg then !PyData.eqv d e else PyData.eqv d e)) H
theorem dEq_ok (hs : StOk K μ H S) {Q : VK} {b : Bool} (neg : Bool) (rx : Rp K μ H x v) (ry : Rp K μ H y u) (h : dEq S x y = some b) (q : Q (.bl (if neg then !b else b)) H) : rEq2 K neg v u H Q := by
  unfold dEq at h
  split at h
  · rename_i hc
    obtain ⟨h1, h2⟩ := scal_rp rx ry hc
    cases h
    exact .inl ⟨h1, by rw [h2]; exact q⟩
  · split at h
    · rename_i p1 p2 e1 e2
      split at h
      · rename_i hsh
        cases h
        rw [Bool.and_eq_true] at hsh
        exact .inr ⟨p1, p2, toP_dp hs rx e1, toP_dp hs ry e2, hsh.1, hsh.2, q⟩
      · cases h
    · cases h
end
theorem os_cmpI {o : Cop} {g : Int → Int → Bool} (h1 : ∀ i j S, cmpD o (.int i) (.int j) S = .ok (.bl (g i j)) S) (h2 : ∀ x y S, (∀ i j, ¬ (x = .int i ∧ y = .int j)) → cmpD o x y S = .bad) : OpS (cmpD o) fun _ => rI0 fun i j => .bl (g i j) := by
  intro K μ H S x y v u Q hs rx ry h
  by_cases hc : ∃ i j, x = .int i ∧ y = .int j
  · obtain ⟨i, j, rfl, rfl⟩ := hc
    rw [h1] at h
    exact ⟨i, j, rx, ry, h.at hs _ rfl⟩
  · rw [h2 x y S (fun i j z => hc ⟨i, j, z⟩)] at h
    exact h.elim
theorem cmp_else (o : Cop) (ho : (match o with | .eq => false | .ne => false | _ => true) = true) (x y : D) (S : Sto) (h : ∀ i j, ¬ (x = .int i ∧ y = .int j)) : cmpD o x y S = .bad := by
  cases o <;> first | (cases ho; done) | (cases x <;> cases y <;> first | rfl | exact absurd ⟨rfl, rfl⟩ (h _ _))
/-- is None -/
theorem isN_rp {K : Fg} {μ : List Addr} {H : Hp} {x : D} {v : V} (r : Rp K μ H x v) : decide (v = V.non) = isNon x := by
  cases x with
  | tup ds => obtain ⟨a, vs, rfl, _⟩ := r; rfl
  | fix ds => obtain ⟨a, vs, rfl, _⟩ := r; rfl
  | ref i => obtain ⟨a, rfl, _⟩ := r; rfl
  | _ => cases r; rfl
end
end PQ

/-! Tests, subscripts, calls, built-ins. -/
namespace PQ
open PySem PySem.Spec PyProof.Rows L2

/-! ### conditions on the text -/
def notStar : Expr → Bool
  | .Starred .. => false
  | _ => true
theorem star_cons {e : Expr} (h : notStar e = true) (es : List Expr) (env : Env) : starEach (e :: es) env = (false, eval e env) :: starEach es env := by
  cases e <;> first | rfl | (cases h; done)
theorem star_any : ∀ {es : List Expr} (pos : Pos) (env : Env), es.all notStar = true → (backTo pos (starEach es env)).any (·.1) = false
  | [], _, _, _ => rfl
  | e :: es, pos, env, h => by
    rw [List.all_cons, Bool.and_eq_true] at h
    rw [star_cons h.1]
    show (false || (backTo pos (starEach es env)).any (·.1)) = false
    rw [star_any pos env h.2]
    rfl
def plainTest : Expr → Bool
  | .UnaryOp .Not _ _ => false
  | .BoolOp .. => false
  | .IfExp .. => false
  | .Compare .. => false
  | _ => true
theorem plain_true {e : Expr} (h : plainTest e = true) (env : Env) (w : Sem Value) : isTrue e env w = (do let v ← w; standAt e.pos; holding [v] (truthy v)) := by
  cases e with
  | UnaryOp o a p => cases o <;> first | rfl | (cases h; done)
  | _ => first | rfl | (cases h; done)
def notSlice : Expr → Bool
  | .Slice .. => false
  | _ => true
theorem plain_ix {e : Expr} (h : notSlice e = true) : PlainIx e := by
  intro o i
  cases e <;> first | rfl | (cases h; done)
theorem aug_store {i : Expr} (h : notSlice i = true) (ov iv new : Value) : augStore i ov iv new = (do holding [new, ov, iv] (setItem ov iv new); release [new, ov, iv] []; pure .next) := by
  cases i <;> first | rfl | (cases h; done)
theorem sub_store {o i : Expr} {pos : Pos} (h : notSlice i = true) (env : Env) (v : Value) : assign (.Subscript o i pos) env v = (do
      let ov ← holding [v] (eval o env)
      let iv ← holding [v, ov] (eval i env)
      standAt pos
      holding [v, ov, iv] (setItem ov iv v)
      release [v, ov, iv] []) := by
  cases i <;> first | rfl | (cases h; done)
def notComp : Expr → Bool
  | .ListComp .. => false
  | .SetComp .. => false
  | .DictComp .. => false
  | _ => true
theorem no_swap {e : Expr} (h : notComp e = true) (t : Option Expr) (l : Nat) (env : Env) : swapsWith e t l env = pure false := by
  cases e <;> first | rfl | (cases h; done)
def notSet : Expr → Bool
  | .Set .. => false
  | _ => true
theorem no_fold {e : Expr} (h : notSet e = true) (env : Env) (x : Value) : foldedSetIterable e env x = pure x := by
  cases e <;> first | rfl | (cases h; done)
def notCall : Expr → Bool
  | .Call .. => false
  | _ => true
theorem plain_base {e : Expr} (h : notCall e = true) (n : Str) (env : Env) (w : Sem Value) : attributeBase e n env w = w := by
  cases e <;> first | rfl | (cases h; done)

section
variable {p : Pl} {a b c e : Expr} {ca cb cc : CE} {pos : Pos} {ta tb : CT}
/-! ### truth -/
theorem tru_rp {K : Fg} {μ : List Addr} {H : Hp} {S : Sto} (hs : StOk K μ H S) {x : D} {v : V} {k : Bool} (r : Rp K μ H x v) (h : tru S x = some k) : TruV K v H k := by
  have emp : ∀ {ds : List D} {vs : List V}, RpA K μ H ds vs → (!ds.isEmpty) = !vs.isEmpty := fun {ds vs} r => by
    have := r.length
    cases ds <;> cases vs <;> first | rfl | (simp at this)
  cases x with
  | non => cases r; cases h; rfl
  | bl b => cases r; cases h; rfl
  | int i => cases r; cases h; rfl
  | str x =>
    cases r
    have h : (if x.length ≤ sizeLine then some (x.length != 0) else none) = some k := h
    split at h
    · cases h
      refine ⟨by assumption, ?_⟩
      rw [Bool.eq_iff_iff]
      simp only [bne_iff_ne, ne_eq]
      omega
    · cases h
  | tup ds =>
    obtain ⟨a, vs, rfl, h1, h2, _⟩ := r
    cases h
    exact .inr (.inl ⟨vs, h1, emp h2⟩)
  | fix ds =>
    obtain ⟨a, vs, rfl, h1, h2, _⟩ := r
    cases h
    exact .inl ⟨vs, h1.sq, emp h2⟩
  | ref i =>
    have h : (match S[i]? with
      | some (Ob.lst ds) => some (!ds.isEmpty)
      | none => none) = some k := h
    cases ei : S[i]? with
    | none => rw [ei] at h; cases h
    | some o =>
      rw [ei] at h
      cases o with
      | lst ds =>
        obtain ⟨a, vs, rfl, _, h1, h2, _⟩ := rp_ref r hs ei
        cases h
        exact .inl ⟨vs, .of h1, emp h2⟩
theorem sd_and {rest : List Expr} (ha : SdE p a ca) (hb : SdE p (.BoolOp .And (b :: rest) pos) cb) : SdE p (.BoolOp .And (a :: b :: rest) pos) (.and ca cb) := fun X C g => (pe_andT (ha X C g) (hb X C g)).pq fun σ H Q ⟨μ, ρ, S, he, hs, h⟩ => by
  unfold evE at h
  refine ⟨μ, ρ, S, he, hs, h.bind.imp fun x S1 μ1 H1 _ e1 s1 h1 v rv => ?_⟩
  obtain ⟨k, ek, h1⟩ := h1.may
  refine ⟨k, tru_rp s1 rv ek, ?_⟩
  cases k with
  | true => rw [if_pos rfl] at h1 ⊢; exact ⟨μ1, ρ, S1, he.mono e1, s1, h1⟩
  | false => rw [if_neg Bool.false_ne_true] at h1 ⊢; exact h1.at s1 v rv
theorem sd_or {rest : List Expr} (ha : SdE p a ca) (hb : SdE p (.BoolOp .Or (b :: rest) pos) cb) : SdE p (.BoolOp .Or (a :: b :: rest) pos) (.or ca cb) := fun X C g => (pe_orT (ha X C g) (hb X C g)).pq fun σ H Q ⟨μ, ρ, S, he, hs, h⟩ => by
  unfold evE at h
  refine ⟨μ, ρ, S, he, hs, h.bind.imp fun x S1 μ1 H1 _ e1 s1 h1 v rv => ?_⟩
  obtain ⟨k, ek, h1⟩ := h1.may
  refine ⟨k, tru_rp s1 rv ek, ?_⟩
  cases k with
  | true => rw [if_pos rfl] at h1 ⊢; exact h1.at s1 v rv
  | false => rw [if_neg Bool.false_ne_true] at h1 ⊢; exact ⟨μ1, ρ, S1, he.mono e1, s1, h1⟩
theorem sd_one {op} (ha : SdE p a ca) : SdE p (.BoolOp op [a] pos) ca := fun X C g => pe_one (ha X C g)
theorem sd_not (ha : SdE p a ca) : SdE p (.UnaryOp .Not a pos) (.not ca) := fun X C g => (pe_notT (ha X C g)).pq fun σ H Q ⟨μ, ρ, S, he, hs, h⟩ => by
  unfold evE at h
  refine ⟨μ, ρ, S, he, hs, h.bind.imp fun x S1 μ1 H1 _ e1 s1 h1 v rv => ?_⟩
  obtain ⟨k, ek, h1⟩ := h1.may
  exact ⟨k, tru_rp s1 rv ek, h1.at s1 _ rfl⟩
theorem sd_ife (ht : SdT p c ta) (ha : SdE p a ca) (hb : SdE p b cb) : SdE p (.IfExp c a b pos) (.ife ta ca cb) := fun X C g => (pe_ifExp (ht X C g) (ha X C g) (hb X C g)).pq fun σ H Q ⟨μ, ρ, S, he, hs, h⟩ => by
  unfold evE at h
  refine ⟨μ, ρ, S, he, hs, h.bind.imp fun k S1 μ1 H1 _ e1 s1 h1 => ?_⟩
  cases k with
  | true => rw [if_pos rfl] at h1 ⊢; exact ⟨μ1, ρ, S1, he.mono e1, s1, h1⟩
  | false => rw [if_neg Bool.false_ne_true] at h1 ⊢; exact ⟨μ1, ρ, S1, he.mono e1, s1, h1⟩

/-! ### tests -/
theorem st_plain (h : plainTest e = true) (ha : SdE p e ca) : SdT p e (.v ca) := fun X C g => (pt_truth (ha X C g) (fun w => plain_true h _ w)).pq fun σ H Q ⟨μ, ρ, S, he, hs, h⟩ => by
  unfold evT at h
  refine ⟨μ, ρ, S, he, hs, h.bind.imp fun x S1 μ1 H1 _ e1 s1 h1 v rv => ?_⟩
  obtain ⟨k, ek, h1⟩ := h1.may
  exact ⟨k, tru_rp s1 rv ek, h1.at s1⟩
/-- a comparison: its value, its test -/
def SdC (p : Pl) (e : Expr) (c : CE) : Prop := ∀ X C, Good X p C → ∃ t, PE X e t ∧ PT X e (tTest t) ∧ ∀ σ H Q, tE X.K (evE C c) σ H Q → t σ H Q
def isB : D → Bool
  | .bl _ => true
  | _ => false
theorem SdC.val (h : SdC p e ca) : SdE p e ca := fun X C g => by
  obtain ⟨t, h1, _, h3⟩ := h X C g
  exact h1.pq h3
theorem SdC.test (h : SdC p e ca) (hb : ∀ C ρ S d S', evE C ca ρ S = .ok d S' → isB d = true) : SdT p e (.v ca) := fun X C g => by
  obtain ⟨t, _, h2, h3⟩ := h X C g
  refine h2.pq fun σ H Q ⟨μ, ρ, S, he, hs, h⟩ => h3 σ H _ ?_
  unfold evT at h
  refine ⟨μ, ρ, S, he, hs, h.bind.imp fun x S1 μ1 H1 ex e1 s1 h1 v rv => ?_⟩
  have := hb _ _ _ _ _ ex
  cases x with
  | bl b =>
    cases rv
    obtain ⟨k, ek, h1⟩ := h1.may
    cases ek
    exact ⟨b, rfl, h1.at s1⟩
  | _ => cases this
theorem sw_and1 (ha : SdT p a ta) : SdW p (.BoolOp .And [a] pos) ta := fun X C g => pw_and1 (ha X C g)
theorem sw_or1 (ha : SdT p a ta) : SdW p (.BoolOp .Or [a] pos) ta := fun X C g => pw_or1 (ha X C g)
theorem sw_and {rest : List Expr} (ha : SdT p a ta) (hb : SdW p (.BoolOp .And (b :: rest) pos) tb) : SdW p (.BoolOp .And (a :: b :: rest) pos) (.and ta tb) := fun X C g => (pw_and (ha X C g) (hb X C g)).pq fun σ H Q ⟨μ, ρ, S, he, hs, h⟩ => by
  unfold evT at h
  refine ⟨μ, ρ, S, he, hs, h.bind.imp fun k S1 μ1 H1 _ e1 s1 h1 => ?_⟩
  cases k with
  | true => rw [if_pos rfl] at h1 ⊢; exact ⟨μ1, ρ, S1, he.mono e1, s1, h1⟩
  | false => rw [if_neg Bool.false_ne_true] at h1 ⊢; exact h1.at s1
theorem sw_or {rest : List Expr} (ha : SdT p a ta) (hb : SdW p (.BoolOp .Or (b :: rest) pos) tb) : SdW p (.BoolOp .Or (a :: b :: rest) pos) (.or ta tb) := fun X C g => (pw_or (ha X C g) (hb X C g)).pq fun σ H Q ⟨μ, ρ, S, he, hs, h⟩ => by
  unfold evT at h
  refine ⟨μ, ρ, S, he, hs, h.bind.imp fun k S1 μ1 H1 _ e1 s1 h1 => ?_⟩
  cases k with
  | true => rw [if_pos rfl] at h1 ⊢; exact h1.at s1
  | false => rw [if_neg Bool.false_ne_true] at h1 ⊢; exact ⟨μ1, ρ, S1, he.mono e1, s1, h1⟩
theorem st_w (h : SdW p e ta) : SdT p e ta := fun X C g => (h X C g).pt
theorem st_not (ha : SdT p a ta) : SdT p (.UnaryOp .Not a pos) (.not ta) := fun X C g => (pt_not (ha X C g)).pq fun σ H Q ⟨μ, ρ, S, he, hs, h⟩ => by
  unfold evT at h
  exact ⟨μ, ρ, S, he, hs, h.bind.imp fun k S1 μ1 H1 _ e1 s1 h1 => h1.at s1⟩

/-! ### comparisons by their sign -/
def copOp : Cop → CmpOp
  | .eq => .Eq | .ne => .NotEq | .lt => .Lt | .le => .LtE | .gt => .Gt | .ge => .GtE
def copR : Cop → Fg → R2
  | .eq, K => rEq2 K false
  | .ne, K => rEq2 K true
  | .lt, _ => rI0 fun i j => .bl (decide (i < j))
  | .le, _ => rI0 fun i j => .bl (decide (i ≤ j))
  | .gt, _ => rI0 fun i j => .bl (decide (j < i))
  | .ge, _ => rI0 fun i j => .bl (decide (j ≤ i))
theorem cop_op (o : Cop) (X : Cx) (C : Orc) (g : Good X p C) : OpR X (compareOp (copOp o)) (copR o X.K) := by
  have := g.un
  cases o with
  | eq => exact op_eq.or (op_eqD (by omega))
  | ne => exact op_ne.or (op_neD (by omega))
  | lt => exact op_lt
  | le => exact op_le
  | gt => exact op_gt
  | ge => exact op_ge
theorem cop_os (o : Cop) : OpS (cmpD o) (copR o) := by
  cases o with
  | eq =>
      intro K μ H S x y v u Q hs rx ry h
      obtain ⟨b, e, h⟩ := Po.may (show Po K μ H (may (dEq S x y) fun b => Res.ok (D.bl b) S) _ from h)
      exact dEq_ok hs false rx ry e (h.at hs _ rfl)
  | ne =>
      intro K μ H S x y v u Q hs rx ry h
      obtain ⟨b, e, h⟩ := Po.may (show Po K μ H (may (dEq S x y) fun b => Res.ok (D.bl (!b)) S) _ from h)
      exact dEq_ok hs true rx ry e (h.at hs _ rfl)
  | lt => exact os_cmpI (fun _ _ _ => rfl) (cmp_else .lt rfl)
  | le => exact os_cmpI (fun _ _ _ => rfl) (cmp_else .le rfl)
  | gt => exact os_cmpI (fun _ _ _ => rfl) (cmp_else .gt rfl)
  | ge => exact os_cmpI (fun _ _ _ => rfl) (cmp_else .ge rfl)
theorem cmp_bl {o : Cop} {x y : D} {S : Sto} {d : D} {S' : Sto} (h : cmpD o x y S = .ok d S') : ∃ k, d = .bl k := by
  cases o with
  | eq =>
    have h : may (dEq S x y) (fun b => Res.ok (D.bl b) S) = .ok d S' := h
    cases e : dEq S x y with
    | none => rw [e] at h; cases h
    | some k => rw [e] at h; cases h; exact ⟨_, rfl⟩
  | ne =>
    have h : may (dEq S x y) (fun b => Res.ok (D.bl (!b)) S) = .ok d S' := h
    cases e : dEq S x y with
    | none => rw [e] at h; cases h
    | some k => rw [e] at h; cases h; exact ⟨_, rfl⟩
  | _ => cases x <;> first | (cases h; done) | (cases y <;> first | (cases h; done) | (cases h; exact ⟨_, rfl⟩))
theorem bind_ok {α β : Type} {r : Res α} {f : α → Sto → Res β} {b : β} {S' : Sto} (h : r.bind f = .ok b S') : ∃ a S1, r = .ok a S1 ∧ f a S1 = .ok b S' := by
  cases r with
  | ok a S1 => exact ⟨a, S1, rfl, h⟩
  | exc c fs S1 => cases h
  | bad => cases h
theorem may_ok {α β : Type} {o : Option α} {f : α → Res β} {b : β} {S' : Sto} (h : may o f = .ok b S') : ∃ a, o = some a ∧ f a = .ok b S' := by
  cases o with
  | none => cases h
  | some a => exact ⟨a, rfl, h⟩
theorem sc_cmp (o : Cop) (ha : SdE p a ca) (hb : SdE p b cb) : SdC p (.Compare a [copOp o] [b] pos) (.cmp o ca cb) := fun X C g => by
  have h1 : copOp o ≠ .In := by cases o <;> (intro z; cases z)
  have h2 : copOp o ≠ .NotIn := by cases o <;> (intro z; cases z)
  refine ⟨_, pe_cmpR (cop_op o X C g) (ha X C g) (hb X C g) (nomark b h1 h2), pt_cmpR (cop_op o X C g) (ha X C g) (hb X C g) (nomark b h1 h2), fun σ H Q h => tOp_imp (cop_os o) ?_⟩
  obtain ⟨μ, ρ, S, he, hs, h⟩ := h
  unfold evE at h
  exact ⟨μ, ρ, S, he, hs, h⟩
theorem b_cmp {o : Cop} : ∀ C ρ S d S', evE C (.cmp o ca cb) ρ S = .ok d S' → isB d = true := fun C ρ S d S' h => by
  unfold evE at h
  obtain ⟨x, S1, _, h⟩ := bind_ok h
  obtain ⟨y, S2, _, h⟩ := bind_ok h
  obtain ⟨k, rfl⟩ := cmp_bl h
  rfl
theorem sc_chn (o q : Cop) (hm : lastMarks [copOp o, copOp q] [b, c] = false) (ha : SdE p a ca) (hb : SdE p b cb) (hc : SdE p c cc) : SdC p (.Compare a [copOp o, copOp q] [b, c] pos) (.chn o q ca cb cc) := fun X C g => by
  refine ⟨_, pe_chain (cop_op o X C g) (cop_op q X C g) (ha X C g) (hb X C g) (hc X C g) hm, pt_chain (cop_op o X C g) (cop_op q X C g) (ha X C g) (hb X C g) (hc X C g) hm, fun σ H Q ⟨μ, ρ, S, he, hs, h⟩ => ?_⟩
  unfold evE at h
  refine ⟨μ, ρ, S, he, hs, h.bind.imp fun x S1 μ1 H1 _ e1 s1 h1 v rv => ?_⟩
  refine ⟨μ1, ρ, S1, he.mono e1, s1, h1.bind.imp fun y S2 μ2 H2 _ e2 s2 h2 u ru => ?_⟩
  refine cop_os o X.K μ2 H2 S2 x y v u _ s2 (rv.mono e2) ru (h2.bind.imp fun z S3 μ3 H3 ez e3 s3 h3 w rw_ => ?_)
  obtain ⟨k, rfl⟩ := cmp_bl ez
  refine ⟨k, rw_, ?_⟩
  cases k with
  | true =>
    rw [if_pos rfl]
    refine ⟨μ3, ρ, S3, he.mono (e1.trans (e2.trans e3)), s3, h3.bind.imp fun w' S4 μ4 H4 _ e4 s4 h4 t rt => ?_⟩
    exact cop_os q X.K μ4 H4 S4 y w' u t Q s4 ((ru.mono e3).mono e4) rt h4
  | false =>
    rw [if_neg Bool.false_ne_true]
    exact h3.at s3 _ rfl
theorem b_chn {o q : Cop} : ∀ C ρ S d S', evE C (.chn o q ca cb cc) ρ S = .ok d S' → isB d = true := fun C ρ S d S' h => by
  unfold evE at h
  obtain ⟨x, S1, _, h⟩ := bind_ok h
  obtain ⟨y, S2, _, h⟩ := bind_ok h
  obtain ⟨z, S3, ez, h⟩ := bind_ok h
  obtain ⟨k, rfl⟩ := cmp_bl ez
  cases k with
  | true =>
    obtain ⟨w, S4, _, h⟩ := bind_ok h
    obtain ⟨k, rfl⟩ := cmp_bl h
    rfl
  | false => cases h; rfl
theorem sc_isN {j pos'} (ha : SdE p a ca) : SdC p (.Compare a [.Is] [.Constant .none j pos'] pos) (.isN ca) := fun X C g => by
  refine ⟨_, pe_cmp (pc_isN (ha X C g)), pt_cmp (pc_isN (ha X C g)), fun σ H Q ⟨μ, ρ, S, he, hs, h⟩ => ?_⟩
  unfold evE at h
  refine ⟨μ, ρ, S, he, hs, h.bind.imp fun x S1 μ1 H1 _ e1 s1 h1 v rv => ?_⟩
  show Q (V.bl (decide (v = V.non))) H1
  rw [isN_rp rv]
  exact h1.at s1 _ rfl
theorem sc_notN {j pos'} (ha : SdE p a ca) : SdC p (.Compare a [.IsNot] [.Constant .none j pos'] pos) (.notN ca) := fun X C g => by
  refine ⟨_, pe_cmp (pc_notN (ha X C g)), pt_cmp (pc_notN (ha X C g)), fun σ H Q ⟨μ, ρ, S, he, hs, h⟩ => ?_⟩
  unfold evE at h
  refine ⟨μ, ρ, S, he, hs, h.bind.imp fun x S1 μ1 H1 _ e1 s1 h1 v rv => ?_⟩
  show Q (V.bl (!decide (v = V.non))) H1
  rw [isN_rp rv]
  exact h1.at s1 _ rfl
theorem b_isN : ∀ C ρ S d S', evE C (.isN ca) ρ S = .ok d S' → isB d = true := fun C ρ S d S' h => by
  unfold evE at h
  obtain ⟨x, S1, _, h⟩ := bind_ok h
  cases h; rfl
theorem b_notN : ∀ C ρ S d S', evE C (.notN ca) ρ S = .ok d S' → isB d = true := fun C ρ S d S' h => by
  unfold evE at h
  obtain ⟨x, S1, _, h⟩ := bind_ok h
  cases h; rfl
end
end PQ

/-! Subscripts, calls, built-ins. -/
namespace PQ
open PySem PySem.Spec PyProof.Rows L2
section
variable {p : Pl} {a b c e : Expr} {ca cb cc : CE} {cr : CR} {pos : Pos}
section
variable {K : Fg} {μ : List Addr} {H : Hp} {S : Sto} {x y d : D} {v u : V} {Q : VK} {ds : List D} {vs : List V} {r : RV}
theorem ls_rv (hs : StOk K μ H S) (rv : RvR K μ H r v) (h : lsOf S r = some ds) : ∃ a vs, v = .ref a ∧ SqL K H a vs ∧ RpA K μ H ds vs ∧ ds.length ≤ sizeLine := by
  cases r with
  | own es =>
    cases h
    obtain ⟨a, vs, h1, h2, _, h4, h5⟩ := rv
    exact ⟨a, vs, h1, .of h2, h4, h5⟩
  | val d =>
    cases d with
    | fix es =>
      cases h
      obtain ⟨a, vs, h1, h2, h3, h4⟩ := rv
      exact ⟨a, vs, h1, h2.sq, h3, h4⟩
    | ref i =>
      have h : (match S[i]? with
        | some (Ob.lst ds) => some ds
        | none => none) = some ds := h
      cases ei : S[i]? with
      | none => rw [ei] at h; cases h
      | some o =>
        rw [ei] at h
        cases o with
        | lst es =>
          cases h
          obtain ⟨a, vs, h1, _, h2, h3, h4⟩ := rp_ref rv hs ei
          exact ⟨a, vs, h1, .of h2, h3, h4⟩
    | _ => cases h
theorem tr_rv (hs : StOk K μ H S) (rv : RvR K μ H r v) (h : trOf S r = some ds) : ∃ a vs, v = .ref a ∧ H a = some (.lst vs) ∧ RpA K μ H ds vs ∧ ds.length ≤ sizeLine := by
  cases r with
  | own es =>
    cases h
    obtain ⟨a, vs, h1, h2, _, h4, h5⟩ := rv
    exact ⟨a, vs, h1, h2, h4, h5⟩
  | val d =>
    cases d with
    | ref i =>
      have h : (match S[i]? with
        | some (Ob.lst ds) => some ds
        | none => none) = some ds := h
      cases ei : S[i]? with
      | none => rw [ei] at h; cases h
      | some o =>
        rw [ei] at h
        cases o with
        | lst es =>
          cases h
          obtain ⟨a, vs, h1, _, h2, h3, h4⟩ := rp_ref rv hs ei
          exact ⟨a, vs, h1, h2, h3, h4⟩
    | _ => cases h
theorem sq_rv (hs : StOk K μ H S) (rv : RvR K μ H r v) (h : sqOf S r = some ds) : ∃ a vs, v = .ref a ∧ (SqL K H a vs ∨ (SqT K H a vs ∧ r = .val (.tup ds))) ∧ RpA K μ H ds vs ∧ ds.length ≤ sizeLine := by
  by_cases ht : ∃ es, r = .val (.tup es)
  · obtain ⟨es, rfl⟩ := ht
    cases h
    obtain ⟨a, vs, h1, h2, h3, h4⟩ := rv
    exact ⟨a, vs, h1, .inr ⟨h2, rfl⟩, h3, h4⟩
  · have h : lsOf S r = some ds := by
      cases r with
      | own es => exact h
      | val d => cases d <;> first | exact h | exact absurd ⟨_, rfl⟩ ht
    obtain ⟨a, vs, h1, h2, h3, h4⟩ := ls_rv hs rv h
    exact ⟨a, vs, h1, .inl h2, h3, h4⟩
theorem sq_or {a : Addr} {X : Prop} (h : SqL K H a vs ∨ (SqT K H a vs ∧ X)) : SqL K H a vs ∨ SqT K H a vs := h.elim .inl fun z => .inr z.1
theorem rp_ints : ∀ {ds : List D} {vs : List V} {ns : List Int}, RpA K μ H ds vs → intsOf ds = some ns → vs = ns.map V.int
  | [], _, _, r, h => by cases h; exact r
  | d :: ds, _, ns, ⟨v, r, e, h1, h2⟩, h => by
    cases d with
    | int i =>
      have h : (intsOf ds).map (i :: ·) = some ns := h
      cases e1 : intsOf ds with
      | none => rw [e1] at h; cases h
      | some ms =>
        rw [e1] at h
        cases h
        rw [e, show v = V.int i from h1, rp_ints h2 e1]
        rfl
    | _ => cases h
theorem rp_bools : ∀ {ds : List D} {vs : List V} {ns : List Bool}, RpA K μ H ds vs → boolsOf ds = some ns → vs = ns.map V.bl
  | [], _, _, r, h => by cases h; exact r
  | d :: ds, _, ns, ⟨v, r, e, h1, h2⟩, h => by
    cases d with
    | bl i =>
      have h : (boolsOf ds).map (i :: ·) = some ns := h
      cases e1 : boolsOf ds with
      | none => rw [e1] at h; cases h
      | some ms =>
        rw [e1] at h
        cases h
        rw [e, show v = V.bl i from h1, rp_bools h2 e1]
        rfl
    | _ => cases h
theorem rp_at (r : RpA K μ H ds vs) {i : Int} (h : atI ds i = some d) : ∃ v, atI vs i = some v ∧ Rp K μ H d v := by
  unfold atI at h ⊢
  rw [← r.length]
  cases e : ixN ds.length i with
  | none => rw [e] at h; cases h
  | some j =>
    rw [e] at h
    exact r.get h
theorem cutD_ok (r : RpA K μ H ds vs) (lo hi : Option Int) : RpA K μ H (cutD ds lo hi) (cutV vs lo hi) := by
  unfold cutD cutV
  rw [r.length]
  exact (r.drop _).take _
theorem cutD_len (ds : List D) (lo hi : Option Int) : (cutD ds lo hi).length ≤ ds.length := by
  unfold cutD
  rw [List.length_take, List.length_drop]
  omega
end

/-! ### a[i], a[lo:hi] -/
theorem os_idx : OpS idxD rIx := by
  intro K μ H S x y v u Q hs rx ry h
  cases x with
  | tup ds =>
    cases y with
    | int i =>
      obtain ⟨d, e, h⟩ := Po.may (show Po K μ H (may (atI ds i) fun d => Res.ok d S) _ from h)
      obtain ⟨a, vs, rfl, h1, h2, _⟩ := rx
      obtain ⟨w, e1, r1⟩ := rp_at h2 e
      exact .inr (.inl ⟨a, vs, i, w, rfl, ry, h1, e1, h.at hs w r1⟩)
    | _ => exact (show False from h).elim
  | fix ds =>
    cases y with
    | int i =>
      obtain ⟨d, e, h⟩ := Po.may (show Po K μ H (may (atI ds i) fun d => Res.ok d S) _ from h)
      obtain ⟨a, vs, rfl, h1, h2, _⟩ := rx
      obtain ⟨w, e1, r1⟩ := rp_at h2 e
      exact .inl ⟨a, vs, i, w, rfl, ry, h1.sq, e1, h.at hs w r1⟩
    | _ => exact (show False from h).elim
  | ref n =>
    cases y with
    | int i =>
      have h : Po K μ H (match S[n]? with
        | some (Ob.lst ds) => may (atI ds i) fun d => Res.ok d S
        | none => Res.bad) _ := h
      cases ei : S[n]? with
      | none => rw [ei] at h; exact (show False from h).elim
      | some o =>
        rw [ei] at h
        cases o with
        | lst ds =>
          obtain ⟨d, e, h⟩ := Po.may h
          obtain ⟨a, vs, rfl, _, h1, h2, _⟩ := rp_ref rx hs ei
          obtain ⟨w, e1, r1⟩ := rp_at h2 e
          exact .inl ⟨a, vs, i, w, rfl, ry, .of h1, e1, h.at hs w r1⟩
    | _ => exact (show False from h).elim
  | str z =>
    cases y with
    | int i =>
      obtain ⟨hz, h⟩ := Po.ite (show Po K μ H (if z.length ≤ sizeLine then may (atI z.cps.toList i) fun c => Res.ok (D.str ⟨#[c]⟩) S else Res.bad) _ from h)
      obtain ⟨k, e, h⟩ := Po.may h
      exact .inr (.inr ⟨z, i, k, rx, ry, hz, e, h.at hs _ rfl⟩)
    | _ => exact (show False from h).elim
  | _ => exact (show False from h).elim
theorem sd_idx (hn : notSlice b = true) (ha : SdE p a ca) (hb : SdE p b cb) : SdE p (.Subscript a b pos) (.idx ca cb) := fun X C g =>
  (pe_ix ix_seq (ha X C g) (hb X C g) (plain_ix hn)).pq fun σ H Q h => tOp_imp os_idx (by
    obtain ⟨μ, ρ, S, he, hs, h⟩ := h
    unfold evE at h
    exact ⟨μ, ρ, S, he, hs, h⟩)
theorem so_none : SdO p none .none := fun X C g => po_none.pq fun σ H Q ⟨μ, ρ, S, he, hs, h⟩ => by
  unfold evO at h
  exact h.at hs
theorem so_some (ha : SdE p a ca) : SdO p (some a) (.some ca) := fun X C g => (po_some (ha X C g)).pq fun σ H Q ⟨μ, ρ, S, he, hs, h⟩ => by
  unfold evO at h
  refine ⟨μ, ρ, S, he, hs, h.bind.imp fun x S1 μ1 H1 _ e1 s1 h1 v rv => ?_⟩
  cases x with
  | int i => exact ⟨i, rv, h1.at s1⟩
  | _ => exact (show False from h1).elim
def rSl3 (K : Fg) : V → Option Int → Option Int → Hp → VK → Prop := fun x lo hi H Q => rSlA K x lo hi H Q ∨ (rSlL K x lo hi H Q ∨ rSlS x lo hi H Q)
theorem os_slc {K : Fg} {μ : List Addr} {H : Hp} {S : Sto} {x : D} {v : V} {Q : VK} {lo hi : Option Int} (hs : StOk K μ H S) (rx : Rp K μ H x v) (h : Po K μ H (slcD x lo hi S) fun d _ μ' H' => ∀ v, Rp K μ' H' d v → Q v H') : rSl3 K v lo hi H Q := by
  cases x with
  | tup ds =>
    have h : Po K μ H (Res.ok (D.tup (cutD ds lo hi)) S) _ := h
    obtain ⟨a, vs, rfl, h1, h2, h3⟩ := rx
    have hz : (cutD ds lo hi).length ≤ sizeLine := Nat.le_trans (cutD_len _ _ _) h3
    refine .inl ⟨a, vs, rfl, h1, fun hw => ?_, fun _ p hp => ?_⟩
    · refine h.at hs _ ⟨a, vs, rfl, h1, ?_, hz⟩
      have e : cutV vs lo hi = vs := by
        unfold cutV
        rw [hw.1, hw.2, List.drop_zero, Nat.sub_zero, List.take_length]
      have := cutD_ok h2 lo hi
      rw [e] at this
      exact this
    · exact h μ _ (hs.fresh hp _) (hs.freshOk hp _) _ (rp_tup hs hz (cutD_ok h2 lo hi) hp)
  | fix ds =>
    have h : Po K μ H (Res.ok (D.ref S.length) (S ++ [Ob.lst (cutD ds lo hi)])) _ := h
    obtain ⟨a, vs, rfl, h1, h2, h3⟩ := rx
    refine .inr (.inl ⟨a, vs, rfl, h1.sq, fun p hp => ?_⟩)
    obtain ⟨e1, s1, r1⟩ := take_new hs (Nat.le_trans (cutD_len _ _ _) h3) (cutD_ok h2 lo hi) hp
    exact h _ _ e1 s1 _ r1
  | ref n =>
    have h : Po K μ H (match S[n]? with
      | some (Ob.lst ds) => Res.ok (D.ref S.length) (S ++ [Ob.lst (cutD ds lo hi)])
      | none => Res.bad) _ := h
    cases ei : S[n]? with
    | none => rw [ei] at h; exact (show False from h).elim
    | some o =>
      rw [ei] at h
      cases o with
      | lst ds =>
        obtain ⟨a, vs, rfl, _, h1, h2, h3⟩ := rp_ref rx hs ei
        refine .inr (.inl ⟨a, vs, rfl, .of h1, fun p hp => ?_⟩)
        obtain ⟨e1, s1, r1⟩ := take_new hs (Nat.le_trans (cutD_len _ _ _) h3) (cutD_ok h2 lo hi) hp
        exact h _ _ e1 s1 _ r1
  | str z =>
    obtain ⟨hz, h⟩ := Po.ite (show Po K μ H (if z.length ≤ sizeLine then Res.ok (D.str (cutS z lo hi)) S else Res.bad) _ from h)
    exact .inr (.inr ⟨z, rx, hz, h.at hs _ rfl⟩)
  | _ => exact (show False from h).elim
theorem sd_slc {lo hi : Option Expr} {cl ch : CO} {p2 : Pos} (ha : SdE p a ca) (hl : SdO p lo cl) (hh : SdO p hi ch) : SdE p (.Subscript a (.Slice lo hi none p2) pos) (.slc ca cl ch) := fun X C g =>
  (pe_slice (r := rSl3 X.K) (sl_tupA.or (sl_list.or sl_str)) (ha X C g) (hl X C g) (hh X C g)).pq fun σ H Q ⟨μ, ρ, S, he, hs, h⟩ => by
    unfold evE at h
    refine ⟨μ, ρ, S, he, hs, h.bind.imp fun x S1 μ1 H1 _ e1 s1 h1 v rv => ?_⟩
    refine ⟨μ1, ρ, S1, he.mono e1, s1, h1.bind.imp fun l S2 μ2 H2 _ e2 s2 h2 => ?_⟩
    refine ⟨μ2, ρ, S2, he.mono (e1.trans e2), s2, h2.bind.imp fun u S3 μ3 H3 _ e3 s3 h3 => ?_⟩
    exact os_slc s3 ((rv.mono e2).mono e3) h3
theorem sq_rev {k : Nat} {p1 p2 p3 : Pos} (ha : SdR p a cr) : SdQ p (.Subscript a (.Slice none none (some (.UnaryOp .USub (.Constant (.int 1) k p1) p2)) p3) pos) (.rev cr) := fun X C g =>
  (pe_revL (ha X C g)).pq fun σ H Q ⟨μ, ρ, S, he, hs, h⟩ => by
    unfold evQ at h
    refine ⟨μ, ρ, S, he, hs, h.bind.imp fun r S1 μ1 H1 _ e1 s1 h1 v rv => ?_⟩
    obtain ⟨ds, eds, h1⟩ := h1.may
    obtain ⟨a, vs, rfl, h2, h3, h4⟩ := ls_rv s1 rv eds
    refine ⟨a, vs, rfl, h2, fun q hq => ?_⟩
    refine h1 μ1 _ (s1.fresh hq _) (s1.freshOk hq _) q _ (e1.alive _ hq) upd_same (fun m => ?_) (h3.mono (s1.fresh hq _)).reverse (by rw [List.length_reverse]; exact h4)
    obtain ⟨w, ew, _⟩ := s1.mem m
    rw [hq] at ew; cases ew

/-! ### calls of defs -/
theorem sd_call {i : Nat} {x : Str} {es : List Expr} {c : CEs} {q : Pos} (hT : p.T[i]? = some x) (hg : p.sc.names.lookup x = some .globalImplicit) (hd : (x == ("__debug__" : Str)) = false) (hn : notStar e = true) (hns : es.all notStar = true) (ha : SdA p (e :: es) c) :
    SdE p (.Call (.Name x q) (e :: es) [] pos) (.call i c) := fun X C g => by
  obtain ⟨f, fd, ps, k, hm, F, hr, hk, hb⟩ := g.fn i x hT
  refine (pe_call (dvs := []) F hr (by show X.env.scope.names.lookup x = _; rw [g.sc]; exact hg) hm hk hb .nil pass0 (ha X C g) hd (star_cons hn es _) (star_any _ _ hns)).pq fun σ H Q ⟨μ, ρ, S, he, hs, h⟩ => ?_
  unfold evE at h
  refine ⟨μ, ρ, S, he, hs, h.bind.imp fun ds S1 μ1 H1 _ e1 s1 h1 vs rvs => ?_⟩
  exact ⟨μ1, ds, S1, s1, by rw [List.append_nil]; exact rvs, h1⟩
theorem sd_call0 {i : Nat} {x : Str} {q : Pos} (hT : p.T[i]? = some x) (hg : p.sc.names.lookup x = some .globalImplicit) (hd : (x == ("__debug__" : Str)) = false) :
    SdE p (.Call (.Name x q) [] [] pos) (.call i .nil) := fun X C g => by
  obtain ⟨f, fd, ps, k, hm, F, hr, hk, hb⟩ := g.fn i x hT
  refine (pe_call0 (dvs := []) F hr (by show X.env.scope.names.lookup x = _; rw [g.sc]; exact hg) hm hk hb .nil pass0 hd).pq fun σ H Q ⟨μ, ρ, S, he, hs, h⟩ => ?_
  unfold evE at h
  refine ⟨μ, [], S, hs, rfl, ?_⟩
  have h := h.bind
  unfold evEs at h
  exact h.at hs

/-! ### built-ins by name -/
/-- one argument, walked -/
theorem tCB_R {r : List V → Hp → VK → Prop} {K : Fg} {f : En → Sto → Res RV} {g : RV → Sto → Res D} {σ : Slots} {H : Hp} {Q : VK}
    (hg : ∀ (μ : List Addr) (H : Hp) (S : Sto) (x : RV) (v : V), StOk K μ H S → RvR K μ H x v → Po K μ H (g x S) (fun d _ μ' H' => ∀ v, Rp K μ' H' d v → Q v H') → r [v] H Q)
    (h : tE K (fun ρ S => (f ρ S).bind fun v S1 => g v S1) σ H Q) : tCB r (tCons (tR K f) tNil) σ H Q := by
  obtain ⟨μ, ρ, S, he, hs, h⟩ := h
  exact ⟨μ, ρ, S, he, hs, h.bind.imp fun x S1 μ1 H1 _ e1 s1 h1 v rv => hg μ1 H1 S1 x v s1 rv h1⟩
theorem tCB_E {r : List V → Hp → VK → Prop} {K : Fg} {f : En → Sto → Res D} {g : D → Sto → Res D} {σ : Slots} {H : Hp} {Q : VK}
    (hg : ∀ (μ : List Addr) (H : Hp) (S : Sto) (x : D) (v : V), StOk K μ H S → Rp K μ H x v → Po K μ H (g x S) (fun d _ μ' H' => ∀ v, Rp K μ' H' d v → Q v H') → r [v] H Q)
    (h : tE K (fun ρ S => (f ρ S).bind fun v S1 => g v S1) σ H Q) : tCB r (tCons (tE K f) tNil) σ H Q := by
  obtain ⟨μ, ρ, S, he, hs, h⟩ := h
  exact ⟨μ, ρ, S, he, hs, h.bind.imp fun x S1 μ1 H1 _ e1 s1 h1 v rv => hg μ1 H1 S1 x v s1 rv h1⟩
theorem tCB_EE {r : List V → Hp → VK → Prop} {K : Fg} {f f2 : En → Sto → Res D} {g : D → D → Sto → Res D} {σ : Slots} {H : Hp} {Q : VK}
    (hg : ∀ (μ : List Addr) (H : Hp) (S : Sto) (x y : D) (v u : V), StOk K μ H S → Rp K μ H x v → Rp K μ H y u → Po K μ H (g x y S) (fun d _ μ' H' => ∀ v, Rp K μ' H' d v → Q v H') → r [v, u] H Q)
    (h : tE K (fun ρ S => (f ρ S).bind fun v S1 => (f2 ρ S1).bind fun w S2 => g v w S2) σ H Q) : tCB r (tCons (tE K f) (tCons (tE K f2) tNil)) σ H Q := by
  obtain ⟨μ, ρ, S, he, hs, h⟩ := h
  refine ⟨μ, ρ, S, he, hs, h.bind.imp fun x S1 μ1 H1 _ e1 s1 h1 v rv => ?_⟩
  exact ⟨μ1, ρ, S1, he.mono e1, s1, h1.bind.imp fun y S2 μ2 H2 _ e2 s2 h2 u ru => hg μ2 H2 S2 x y v u s2 (rv.mono e2) ru h2⟩
section
variable {x : Str} {q : Pos}
theorem gl_of {X : Cx} {C : Orc} (g : Good X p C) (hg : p.sc.names.lookup x = some .globalImplicit) : Gl X x := by
  show X.env.scope.names.lookup x = _
  rw [g.sc]
  exact hg
/-- a module's name for a value -/
theorem sd_con {d : D} (h : (x, Gv.con d) ∈ p.G) (hg : p.sc.names.lookup x = some .globalImplicit) (hd : (x == ("__debug__" : Str)) = false) : SdE p (.Name x q) (.lit d) := fun X C g => by
  obtain ⟨v, u, h1, h2, h3⟩ := g.glb x _ h
  exact (pe_glob (gl_of g hg) h1 h2 hd).pq fun σ H Q ⟨μ, ρ, S, he, hs, h⟩ => by
    unfold evE at h
    exact h.at hs v (h3 _ _)
/-- f(r), f a built-in function -/
theorem sd_agg {f : Ag} {id : String} {r : Fg → List V → Hp → VK → Prop} (hc : ∀ X C, Good X p C → CallR X (.builtin id) (r X.K)) (hb : x ∈ p.B) (hg : p.sc.names.lookup x = some .globalImplicit) (hv : bootBuiltins x = some (.builtin id)) (hn : x ≠ "__name__") (hdb : (x == ("__debug__" : Str)) = false) (hst : notStar e = true)
    (ho : ∀ (K : Fg) (μ : List Addr) (H : Hp) (S : Sto) (x : RV) (v : V) (Q : VK), StOk K μ H S → RvR K μ H x v → Po K μ H (aggD f x S) (fun d _ μ' H' => ∀ v, Rp K μ' H' d v → Q v H') → r K [v] H Q) (ha : SdR p e cr) :
    SdE p (.Call (.Name x q) [e] [] pos) (.agg f cr) := fun X C g =>
  (pe_callB (hc X C g) (gl_of g hg) (g.blt x hb) hv (pa_cons (ha X C g) pa_nil (star_cons hst [] _)) hn hdb (star_cons hst [] _) rfl).pq fun σ H Q h => tCB_R (fun μ H S x v => ho X.K μ H S x v Q) (by
    obtain ⟨μ, ρ, S, he, hs, h⟩ := h
    unfold evE at h
    exact ⟨μ, ρ, S, he, hs, h⟩)
end
theorem greatest_spec : ∀ {ns : List Int} {m : Int}, greatest ns = some m → m ∈ ns ∧ ∀ y, y ∈ ns → y ≤ m
  | [x], m, h => by cases h; exact ⟨List.mem_singleton.mpr rfl, fun y hy => by rw [List.mem_singleton.mp hy]; exact Int.le_refl _⟩
  | x :: z :: r, m, h => by
    have h : (greatest (z :: r)).map (fun m => if x < m then m else x) = some m := h
    cases e : greatest (z :: r) with
    | none => rw [e] at h; cases h
    | some k =>
      rw [e] at h
      obtain ⟨h1, h2⟩ := greatest_spec e
      have h : (if x < k then k else x) = m := Option.some.inj h
      subst h
      split
      · exact ⟨List.mem_cons_of_mem _ h1, fun y hy => by
          rcases List.mem_cons.mp hy with e | hy
          · rw [e]; omega
          · exact h2 y hy⟩
      · exact ⟨List.mem_cons_self, fun y hy => by
          rcases List.mem_cons.mp hy with e | hy
          · rw [e]; exact Int.le_refl _
          · have := h2 y hy
            omega⟩
theorem least_spec : ∀ {ns : List Int} {m : Int}, least ns = some m → m ∈ ns ∧ ∀ y, y ∈ ns → m ≤ y
  | [x], m, h => by cases h; exact ⟨List.mem_singleton.mpr rfl, fun y hy => by rw [List.mem_singleton.mp hy]; exact Int.le_refl _⟩
  | x :: z :: r, m, h => by
    have h : (least (z :: r)).map (fun m => if m < x then m else x) = some m := h
    cases e : least (z :: r) with
    | none => rw [e] at h; cases h
    | some k =>
      rw [e] at h
      obtain ⟨h1, h2⟩ := least_spec e
      have h : (if k < x then k else x) = m := Option.some.inj h
      subst h
      split
      · exact ⟨List.mem_cons_of_mem _ h1, fun y hy => by
          rcases List.mem_cons.mp hy with e | hy
          · rw [e]; omega
          · exact h2 y hy⟩
      · exact ⟨List.mem_cons_self, fun y hy => by
          rcases List.mem_cons.mp hy with e | hy
          · rw [e]; exact Int.le_refl _
          · have := h2 y hy
            omega⟩
section
variable {q : Pos}
theorem sd_len (hb : ("len" : Str) ∈ p.B) (hg : p.sc.names.lookup ("len" : Str) = some .globalImplicit) (hst : notStar e = true) (ha : SdR p e cr) : SdE p (.Call (.Name "len" q) [e] [] pos) (.agg .len cr) :=
  sd_agg (r := fun K xs H Q => ∃ x n, xs = [x] ∧ LenV K x H n ∧ Q (.int n) H) (fun X C g => call_len) hb hg boot_len (by decide) (by decide) hst (fun K μ H S x v Q hs rv h => by
    by_cases hx : ∃ z, x = .val (.str z)
    · obtain ⟨z, rfl⟩ := hx
      obtain ⟨hz, h⟩ := Po.ite (show Po K μ H (if z.length ≤ sizeLine then Res.ok (D.int z.length) S else Res.bad) _ from h)
      cases rv
      exact ⟨_, z.length, rfl, ⟨hz, rfl⟩, h.at hs _ rfl⟩
    · have h : Po K μ H (may (sqOf S x) fun ds => Res.ok (D.int ds.length) S) (fun d _ μ' H' => ∀ v, Rp K μ' H' d v → Q v H') := by
        cases x with
        | own ds => exact h
        | val d => cases d <;> first | exact h | exact absurd ⟨_, rfl⟩ hx
      obtain ⟨ds, e1, h⟩ := h.may
      obtain ⟨a, vs, rfl, h1, h2, _⟩ := sq_rv hs rv e1
      refine ⟨_, ds.length, rfl, ?_, h.at hs _ rfl⟩
      rcases h1 with h1 | ⟨h1, _⟩
      · exact .inl ⟨vs, h1, h2.length⟩
      · exact .inr ⟨vs, h1, h2.length⟩) ha
theorem sd_sum (hb : ("sum" : Str) ∈ p.B) (hg : p.sc.names.lookup ("sum" : Str) = some .globalImplicit) (hst : notStar e = true) (ha : SdR p e cr) : SdE p (.Call (.Name "sum" q) [e] [] pos) (.agg .sum cr) :=
  sd_agg (r := rSum) (fun X C g => cr_sum g.calm) hb hg (by decide +kernel) (by decide) (by decide) hst (fun K μ H S x v Q hs rv h => by
    obtain ⟨ds, e1, h⟩ := Po.may (show Po K μ H (may (lsOf S x) fun ds => may (intsOf ds) fun ns => Res.ok (D.int ns.sum) S) _ from h)
    obtain ⟨ns, e2, h⟩ := h.may
    obtain ⟨a, vs, rfl, h1, h2, _⟩ := ls_rv hs rv e1
    exact ⟨a, ns, rfl, by rw [← rp_ints h2 e2]; exact h1, h.at hs _ rfl⟩) ha
theorem sd_max (hb : ("max" : Str) ∈ p.B) (hg : p.sc.names.lookup ("max" : Str) = some .globalImplicit) (hst : notStar e = true) (ha : SdR p e cr) : SdE p (.Call (.Name "max" q) [e] [] pos) (.agg .max cr) :=
  sd_agg (r := rMax) (fun X C g => cr_max g.calm) hb hg (by decide +kernel) (by decide) (by decide) hst (fun K μ H S x v Q hs rv h => by
    obtain ⟨ds, e1, h⟩ := Po.may (show Po K μ H (may (lsOf S x) fun ds => may (intsOf ds) fun ns => may (greatest ns) fun m => Res.ok (D.int m) S) _ from h)
    obtain ⟨ns, e2, h⟩ := h.may
    obtain ⟨m, e3, h⟩ := h.may
    obtain ⟨a, vs, rfl, h1, h2, _⟩ := ls_rv hs rv e1
    obtain ⟨g1, g2⟩ := greatest_spec e3
    refine ⟨a, ns, rfl, by rw [← rp_ints h2 e2]; exact h1, List.length_pos_of_mem g1, fun k k1 k2 => ?_⟩
    have : k = m := Int.le_antisymm (g2 k k1) (k2 m g1)
    rw [this]
    exact h.at hs _ rfl) ha
theorem sd_min (hb : ("min" : Str) ∈ p.B) (hg : p.sc.names.lookup ("min" : Str) = some .globalImplicit) (hst : notStar e = true) (ha : SdR p e cr) : SdE p (.Call (.Name "min" q) [e] [] pos) (.agg .min cr) :=
  sd_agg (r := rMin) (fun X C g => cr_min g.calm) hb hg (by decide +kernel) (by decide) (by decide) hst (fun K μ H S x v Q hs rv h => by
    obtain ⟨ds, e1, h⟩ := Po.may (show Po K μ H (may (lsOf S x) fun ds => may (intsOf ds) fun ns => may (least ns) fun m => Res.ok (D.int m) S) _ from h)
    obtain ⟨ns, e2, h⟩ := h.may
    obtain ⟨m, e3, h⟩ := h.may
    obtain ⟨a, vs, rfl, h1, h2, _⟩ := ls_rv hs rv e1
    obtain ⟨g1, g2⟩ := least_spec e3
    refine ⟨a, ns, rfl, by rw [← rp_ints h2 e2]; exact h1, List.length_pos_of_mem g1, fun k k1 k2 => ?_⟩
    have : k = m := Int.le_antisymm (k2 m g1) (g2 k k1)
    rw [this]
    exact h.at hs _ rfl) ha
theorem sd_all (hb : ("all" : Str) ∈ p.B) (hg : p.sc.names.lookup ("all" : Str) = some .globalImplicit) (hst : notStar e = true) (ha : SdR p e cr) : SdE p (.Call (.Name "all" q) [e] [] pos) (.agg .all cr) :=
  sd_agg (r := rAll) (fun X C g => cr_all g.calm) hb hg (by decide +kernel) (by decide) (by decide) hst (fun K μ H S x v Q hs rv h => by
    obtain ⟨ds, e1, h⟩ := Po.may (show Po K μ H (may (lsOf S x) fun ds => may (boolsOf ds) fun bs => Res.ok (D.bl (bs.all id)) S) _ from h)
    obtain ⟨ns, e2, h⟩ := h.may
    obtain ⟨a, vs, rfl, h1, h2, _⟩ := ls_rv hs rv e1
    exact ⟨a, ns, rfl, by rw [← rp_bools h2 e2]; exact h1, h.at hs _ rfl⟩) ha
theorem sd_any (hb : ("any" : Str) ∈ p.B) (hg : p.sc.names.lookup ("any" : Str) = some .globalImplicit) (hst : notStar e = true) (ha : SdR p e cr) : SdE p (.Call (.Name "any" q) [e] [] pos) (.agg .any cr) :=
  sd_agg (r := rAny) (fun X C g => cr_any g.calm) hb hg (by decide +kernel) (by decide) (by decide) hst (fun K μ H S x v Q hs rv h => by
    obtain ⟨ds, e1, h⟩ := Po.may (show Po K μ H (may (lsOf S x) fun ds => may (boolsOf ds) fun bs => Res.ok (D.bl (bs.any id)) S) _ from h)
    obtain ⟨ns, e2, h⟩ := h.may
    obtain ⟨a, vs, rfl, h1, h2, _⟩ := ls_rv hs rv e1
    exact ⟨a, ns, rfl, by rw [← rp_bools h2 e2]; exact h1, h.at hs _ rfl⟩) ha
/-- tuple(r), list(r) -/
theorem sd_tuple (hb : ("tuple" : Str) ∈ p.B) (hg : p.sc.names.lookup ("tuple" : Str) = some .globalImplicit) (hst : notStar e = true) (ha : SdR p e cr) : SdE p (.Call (.Name "tuple" q) [e] [] pos) (.agg .tuple cr) := fun X C g =>
  (pe_callTy call_tuple_of (gl_of g hg) (g.blt _ hb) (by decide +kernel) (pa_cons (ha X C g) pa_nil (star_cons hst [] _)) (by decide) (by decide) (star_cons hst [] _) rfl).pq fun σ H Q h => tCB_R (g := aggD .tuple) (fun μ H S x v hs rv h => by
    obtain ⟨ds, e1, h⟩ := Po.may (show Po X.K μ H (may (sqOf S x) fun ds => Res.ok (D.tup ds) S) _ from h)
    obtain ⟨a, vs, rfl, h1, h2, h3⟩ := sq_rv hs rv e1
    refine ⟨a, vs, rfl, ?_⟩
    rcases h1 with h1 | ⟨h1, e2⟩
    · exact .inl ⟨h1, fun l hl => h μ _ (hs.fresh hl _) (hs.freshOk hl _) _ (rp_tup hs h3 h2 hl)⟩
    · exact .inr ⟨h1, h.at hs _ ⟨a, vs, rfl, h1, h2, h3⟩⟩) (by
    obtain ⟨μ, ρ, S, he, hs, h⟩ := h
    unfold evE at h
    exact ⟨μ, ρ, S, he, hs, h⟩)
/-- list(x): of a list, a tuple, a text -/
def rListS (K : Fg) (xs : List V) (H : Hp) (Q : V → Hp → Prop) : Prop := (∃ p ys, xs = [.ref p] ∧ (SqL K H p ys ∨ SqT K H p ys) ∧ ∀ l, H l = none → Q (.ref l) (upd H l (.lst ys))) ∨
  (∃ z : Str, xs = [.str z] ∧ z.length ≤ sizeLine ∧ ∀ l, H l = none → Q (.ref l) (upd H l (.lst (z.cps.toList.map fun c => V.str ⟨#[c]⟩))))
theorem call_list_ofS {X : Cx} (hc : X.calm = true) : CallR X (.type "list") (rListS X.K) := by
  intro pins s σ H xs us Q I r h
  rcases h with h | h
  · exact call_list_of pins s σ H xs us Q I r h
  · obtain ⟨z, rfl, hz, q⟩ := h
    obtain ⟨u, rfl, rx⟩ := vals1 r
    obtain ⟨t, rfl⟩ := rx
    refine PySem.call_list_str (I.ok.hd hc) z t (fun h' tk acc c' hk e hi => ?_) hz
    have zl : z.cps.toList.length = z.cps.size := Array.length_toList
    refine ⟨.ref s.heap.objs.size, upd H s.heap.objs.size (.lst (z.cps.toList.map fun c => V.str ⟨#[c]⟩)), I.laid hk (Nat.le_refl _) ⟨by rw [List.length_map, zl]; exact hz, acc.toList, c', ?_, by rw [Array.toArray_toList]; exact e⟩, rfl, q _ (I.hok.fresh (Nat.le_refl _))⟩
    refine vals_of_idx _ _ (by rw [List.length_map, zl, Array.length_toList]; exact hi.1) fun j u hj => ?_
    obtain ⟨c, t', hc, rfl⟩ := hi.2 j u (by rw [← Array.getElem?_toList]; exact hj)
    exact ⟨.str ⟨#[c]⟩, by simp [hc], ⟨_, rfl⟩⟩
theorem letters_rp {K : Fg} {μ : List Addr} {H : Hp} (l : List Nat) : RpA K μ H (l.map fun c => D.str ⟨#[c]⟩) (l.map fun c => V.str ⟨#[c]⟩) := by
  induction l with
  | nil => exact rfl
  | cons k l ih => exact .cons rfl ih
theorem sq_list (hb : ("list" : Str) ∈ p.B) (hg : p.sc.names.lookup ("list" : Str) = some .globalImplicit) (hst : notStar e = true) (ha : SdR p e cr) : SdQ p (.Call (.Name "list" q) [e] [] pos) (.list cr) := fun X C g =>
  (pe_callTy (call_list_ofS g.calm) (gl_of g hg) (g.blt _ hb) (by decide +kernel) (pa_cons (ha X C g) pa_nil (star_cons hst [] _)) (by decide) (by decide) (star_cons hst [] _) rfl).pq fun σ H Q ⟨μ, ρ, S, he, hs, h⟩ => by
    unfold evQ at h
    refine ⟨μ, ρ, S, he, hs, h.bind.imp fun x S1 μ1 H1 _ e1 s1 h1 v rv => ?_⟩
    obtain ⟨ds, eds, h1⟩ := h1.may
    by_cases ht : ∃ z, x = .val (.str z)
    · obtain ⟨z, rfl⟩ := ht
      have rv' : v = .str z := rv
      subst rv'
      have eds' : (if z.length ≤ sizeLine then some (lettersD z) else none) = some ds := eds
      by_cases hz : z.length ≤ sizeLine
      · rw [if_pos hz, Option.some.injEq] at eds'
        subst eds'
        refine .inr ⟨z, rfl, hz, fun l hl => ?_⟩
        have r0 : RpA X.K μ1 H1 (lettersD z) (z.cps.toList.map fun c => V.str ⟨#[c]⟩) := letters_rp _
        refine h1 μ1 _ (s1.fresh hl _) (s1.freshOk hl _) l _ (e1.alive _ hl) upd_same (fun m => ?_) (r0.mono (s1.fresh hl _)) (by unfold lettersD; rw [List.length_map, Array.length_toList]; exact hz)
        obtain ⟨w, ew, _⟩ := s1.mem m
        rw [hl] at ew; cases ew
      · rw [if_neg hz] at eds'
        cases eds'
    · have eds' : sqOf S1 x = some ds := by
        cases x with
        | own es => exact eds
        | val d => cases d <;> first | exact eds | exact absurd ⟨_, rfl⟩ ht
      obtain ⟨a, vs, rfl, h2, h3, h4⟩ := sq_rv s1 rv eds'
      refine .inl ⟨a, vs, rfl, sq_or h2, fun l hl => ?_⟩
      refine h1 μ1 _ (s1.fresh hl _) (s1.freshOk hl _) l _ (e1.alive _ hl) upd_same (fun m => ?_) (h3.mono (s1.fresh hl _)) h4
      obtain ⟨w, ew, _⟩ := s1.mem m
      rw [hl] at ew; cases ew
end
end
end PQ

/-! More built-ins, methods of lists, isinstance. -/
namespace PQ
open PySem PySem.Spec PyProof.Rows L2
section
variable {p : Pl} {a b c e : Expr} {ca cb cc : CE} {cr : CR} {pos q : Pos}
/-- T(e), T a built-in type; f(e), f(e, e') built-in functions -/
theorem sd_ty1 {f : F1} {x : Str} {T : String} {r : Fg → List V → Hp → VK → Prop} (hc : ∀ X C, Good X p C → CallR X (.type T) (r X.K)) (hb : x ∈ p.B) (hg : p.sc.names.lookup x = some .globalImplicit) (hv : bootBuiltins x = some (.type T)) (hn : x ≠ "__name__") (hdb : (x == ("__debug__" : Str)) = false) (hst : notStar e = true)
    (ho : ∀ (K : Fg) (μ : List Addr) (H : Hp) (S : Sto) (x : D) (v : V) (Q : VK), StOk K μ H S → Rp K μ H x v → Po K μ H (fn1D f x S) (fun d _ μ' H' => ∀ v, Rp K μ' H' d v → Q v H') → r K [v] H Q) (ha : SdE p e ca) :
    SdE p (.Call (.Name x q) [e] [] pos) (.fn1 f ca) := fun X C g =>
  (pe_callTy (hc X C g) (gl_of g hg) (g.blt x hb) hv (pa_cons (ha X C g) pa_nil (star_cons hst [] _)) hn hdb (star_cons hst [] _) rfl).pq fun σ H Q h => tCB_E (fun μ H S x v => ho X.K μ H S x v Q) (by
    obtain ⟨μ, ρ, S, he, hs, h⟩ := h
    unfold evE at h
    exact ⟨μ, ρ, S, he, hs, h⟩)
theorem sd_fun1 {f : F1} {x : Str} {T : String} {r : Fg → List V → Hp → VK → Prop} (hc : ∀ X C, Good X p C → CallR X (.builtin T) (r X.K)) (hb : x ∈ p.B) (hg : p.sc.names.lookup x = some .globalImplicit) (hv : bootBuiltins x = some (.builtin T)) (hn : x ≠ "__name__") (hdb : (x == ("__debug__" : Str)) = false) (hst : notStar e = true)
    (ho : ∀ (K : Fg) (μ : List Addr) (H : Hp) (S : Sto) (x : D) (v : V) (Q : VK), StOk K μ H S → Rp K μ H x v → Po K μ H (fn1D f x S) (fun d _ μ' H' => ∀ v, Rp K μ' H' d v → Q v H') → r K [v] H Q) (ha : SdE p e ca) :
    SdE p (.Call (.Name x q) [e] [] pos) (.fn1 f ca) := fun X C g =>
  (pe_callB (hc X C g) (gl_of g hg) (g.blt x hb) hv (pa_cons (ha X C g) pa_nil (star_cons hst [] _)) hn hdb (star_cons hst [] _) rfl).pq fun σ H Q h => tCB_E (fun μ H S x v => ho X.K μ H S x v Q) (by
    obtain ⟨μ, ρ, S, he, hs, h⟩ := h
    unfold evE at h
    exact ⟨μ, ρ, S, he, hs, h⟩)
theorem sd_fun2 {f : F2} {x : Str} {T : String} {r : Fg → List V → Hp → VK → Prop} (hc : ∀ X C, Good X p C → CallR X (.builtin T) (r X.K)) (hb : x ∈ p.B) (hg : p.sc.names.lookup x = some .globalImplicit) (hv : bootBuiltins x = some (.builtin T)) (hn : x ≠ "__name__") (hdb : (x == ("__debug__" : Str)) = false) (hst : notStar a = true) (hst2 : notStar b = true)
    (ho : ∀ (K : Fg) (μ : List Addr) (H : Hp) (S : Sto) (x y : D) (v u : V) (Q : VK), StOk K μ H S → Rp K μ H x v → Rp K μ H y u → Po K μ H (fn2D f x y S) (fun d _ μ' H' => ∀ v, Rp K μ' H' d v → Q v H') → r K [v, u] H Q) (ha : SdE p a ca) (hb' : SdE p b cb) :
    SdE p (.Call (.Name x q) [a, b] [] pos) (.fn2 f ca cb) := fun X C g =>
  (pe_callB (hc X C g) (gl_of g hg) (g.blt x hb) hv (pa_cons (ha X C g) (pa_cons (hb' X C g) pa_nil (star_cons hst2 [] _)) (star_cons hst [b] _)) hn hdb (star_cons hst [b] _) (star_any _ _ (by rw [List.all_cons, hst2]; rfl))).pq fun σ H Q h => tCB_EE (fun μ H S x y v u => ho X.K μ H S x y v u Q) (by
    obtain ⟨μ, ρ, S, he, hs, h⟩ := h
    unfold evE at h
    exact ⟨μ, ρ, S, he, hs, h⟩)
theorem sd_intT (hb : ("int" : Str) ∈ p.B) (hg : p.sc.names.lookup ("int" : Str) = some .globalImplicit) (hst : notStar e = true) (ha : SdE p e ca) : SdE p (.Call (.Name "int" q) [e] [] pos) (.fn1 .int ca) :=
  sd_ty1 (r := fun _ xs H Q => (∃ i, xs = [.int i] ∧ Q (.int i) H) ∨ ∃ k, xs = [.bl k] ∧ Q (.int (if k then 1 else 0)) H) (fun X C g => call_int1) hb hg (by decide +kernel) (by decide) (by decide) hst (fun K μ H S x v Q hs rv h => by
    cases x with
    | int i => cases rv; exact .inl ⟨i, rfl, Po.at (show Po K μ H (Res.ok (D.int i) S) _ from h) hs _ rfl⟩
    | bl k => cases rv; exact .inr ⟨k, rfl, Po.at (show Po K μ H (Res.ok (D.int (if k then 1 else 0)) S) _ from h) hs _ rfl⟩
    | _ => exact (show False from h).elim) ha
theorem sd_strT (hb : ("str" : Str) ∈ p.B) (hg : p.sc.names.lookup ("str" : Str) = some .globalImplicit) (hst : notStar e = true) (ha : SdE p e ca) : SdE p (.Call (.Name "str" q) [e] [] pos) (.fn1 .str ca) :=
  sd_ty1 (r := fun _ xs H Q => ∃ i, xs = [.int i] ∧ i.natAbs.log2 < 1920 ∧ Q (.str (toString i)) H) (fun X C g => call_str_int) hb hg (by decide +kernel) (by decide) (by decide) hst (fun K μ H S x v Q hs rv h => by
    cases x with
    | int i =>
      cases rv
      obtain ⟨z, h⟩ := Po.ite (show Po K μ H (if i.natAbs.log2 < 1920 then Res.ok (D.str (toString i)) S else Res.bad) _ from h)
      exact ⟨i, rfl, z, Po.at h hs _ rfl⟩
    | _ => exact (show False from h).elim) ha
theorem sd_abs (hb : ("abs" : Str) ∈ p.B) (hg : p.sc.names.lookup ("abs" : Str) = some .globalImplicit) (hst : notStar e = true) (ha : SdE p e ca) : SdE p (.Call (.Name "abs" q) [e] [] pos) (.fn1 .abs ca) :=
  sd_fun1 (r := fun _ xs H Q => ∃ i, xs = [.int i] ∧ Q (.int (if i < 0 then -i else i)) H) (fun X C g => call_abs) hb hg (by decide +kernel) (by decide) (by decide) hst (fun K μ H S x v Q hs rv h => by
    cases x with
    | int i => cases rv; exact ⟨i, rfl, Po.at (show Po K μ H (Res.ok (D.int (if i < 0 then -i else i)) S) _ from h) hs _ rfl⟩
    | _ => exact (show False from h).elim) ha
theorem sd_min2 (hb : ("min" : Str) ∈ p.B) (hg : p.sc.names.lookup ("min" : Str) = some .globalImplicit) (hst : notStar a = true) (hst2 : notStar b = true) (ha : SdE p a ca) (hb' : SdE p b cb) : SdE p (.Call (.Name "min" q) [a, b] [] pos) (.fn2 .min ca cb) :=
  sd_fun2 (r := fun _ xs H Q => ∃ i j, xs = [.int i, .int j] ∧ Q (.int (if j < i then j else i)) H) (fun X C g => call_min2 g.calm) hb hg (by decide +kernel) (by decide) (by decide) hst hst2 (fun K μ H S x y v u Q hs rv ru h => by
    cases x <;> cases y <;> first | exact (show False from h).elim | (cases rv; cases ru; exact ⟨_, _, rfl, Po.at h hs _ rfl⟩)) ha hb'
theorem sd_max2 (hb : ("max" : Str) ∈ p.B) (hg : p.sc.names.lookup ("max" : Str) = some .globalImplicit) (hst : notStar a = true) (hst2 : notStar b = true) (ha : SdE p a ca) (hb' : SdE p b cb) : SdE p (.Call (.Name "max" q) [a, b] [] pos) (.fn2 .max ca cb) :=
  sd_fun2 (r := fun _ xs H Q => ∃ i j, xs = [.int i, .int j] ∧ Q (.int (if j > i then j else i)) H) (fun X C g => call_max2 g.calm) hb hg (by decide +kernel) (by decide) (by decide) hst hst2 (fun K μ H S x y v u Q hs rv ru h => by
    cases x <;> cases y <;> first | exact (show False from h).elim | (cases rv; cases ru; exact ⟨_, _, rfl, Po.at h hs _ rfl⟩)) ha hb'

theorem sd_gcd {x : Str} (hm : (x, Gv.fn "math.gcd") ∈ p.G) (hg : p.sc.names.lookup x = some .globalImplicit) (hdb : (x == ("__debug__" : Str)) = false) (hst : notStar a = true) (hst2 : notStar b = true) (ha : SdE p a ca) (hb' : SdE p b cb) : SdE p (.Call (.Name x q) [a, b] [] pos) (.fn2 .gcd ca cb) := fun X C g =>
  (pe_callBfun cr_gcd (gl_of g hg) (g.glb x _ hm) (pa_cons (ha X C g) (pa_cons (hb' X C g) pa_nil (star_cons hst2 [] _)) (star_cons hst [b] _)) hdb (star_cons hst [b] _) (star_any _ _ (by rw [List.all_cons, hst2]; rfl))).pq fun σ H Q h => tCB_EE (g := fn2D .gcd) (fun μ H S x y v u hs rv ru h => by
    cases x <;> cases y <;> first | exact (show False from h).elim | (cases rv; cases ru; exact ⟨_, _, rfl, Po.at h hs _ rfl⟩)) (by
    obtain ⟨μ, ρ, S, he, hs, h⟩ := h
    unfold evE at h
    exact ⟨μ, ρ, S, he, hs, h⟩)

/-! ### isinstance -/
def tyN : Ty → String
  | .int => "int" | .bool => "bool" | .str => "str" | .tuple => "tuple"
theorem sqt_ty {K : Fg} {H : Hp} {a : Addr} {xs : List V} (h : SqT K H a xs) : TyX K H (.ref a) (.type "tuple") := by
  rcases h with (h | ⟨o, h⟩) | ⟨o, its, n, hk, hc, _⟩
  · exact .base (.tup h)
  · exact .fTuple h
  · exact .kTuple hk hc
theorem fix_ty {K : Fg} {H : Hp} {a : Addr} {xs : List V} (h : Fix K H a xs) : TyX K H (.ref a) (.type "list") := by
  rcases h with ⟨o, h⟩ | ⟨o, its, n, hk, hc, _⟩
  · exact .base (.frz h)
  · exact .kList hk hc
theorem ty_rp {K : Fg} {μ : List Addr} {H : Hp} {S : Sto} {x : D} {v : V} {k : Bool} {t : Ty} (hs : StOk K μ H S) (r : Rp K μ H x v) (h : tyB t S x = some k) : ∃ n, TyX K H v (.type n) ∧ kitB n (tyN t) = some k := by
  cases x with
  | non => cases r; cases h; exact ⟨"NoneType", .base .non, by cases t <;> decide +kernel⟩
  | bl b => cases r; cases h; exact ⟨"bool", .base (.bl b), by cases t <;> decide +kernel⟩
  | int i => cases r; cases h; exact ⟨"int", .base (.int i), by cases t <;> decide +kernel⟩
  | str z => cases r; cases h; exact ⟨"str", .base (.str z), by cases t <;> decide +kernel⟩
  | tup ds =>
    obtain ⟨a, vs, rfl, h1, _⟩ := r
    cases h
    exact ⟨"tuple", sqt_ty h1, by cases t <;> decide +kernel⟩
  | fix ds =>
    obtain ⟨a, vs, rfl, h1, _⟩ := r
    cases h
    exact ⟨"list", fix_ty h1, by cases t <;> decide +kernel⟩
  | ref i =>
    have h : (match S[i]? with
      | some (Ob.lst _) => some false
      | none => none) = some k := h
    cases ei : S[i]? with
    | none => rw [ei] at h; cases h
    | some o =>
      rw [ei] at h
      cases o with
      | lst ds =>
        obtain ⟨a, vs, rfl, _, h1, _⟩ := rp_ref r hs ei
        cases h
        exact ⟨"list", .base (.lst h1), by cases t <;> decide +kernel⟩
theorem sd_isi {t : Ty} {x : Str} {q2 : Pos} (hb : ("isinstance" : Str) ∈ p.B) (hg : p.sc.names.lookup ("isinstance" : Str) = some .globalImplicit) (hb2 : x ∈ p.B) (hg2 : p.sc.names.lookup x = some .globalImplicit) (hv : bootBuiltins x = some (.type (tyN t))) (hn : x ≠ "__name__") (hdb : (x == ("__debug__" : Str)) = false) (hst : notStar a = true) (ha : SdE p a ca) :
    SdE p (.Call (.Name "isinstance" q) [a, .Name x q2] [] pos) (.isi ca t) := fun X C g =>
  (pe_callB call_isi (gl_of g hg) (g.blt _ hb) (by decide +kernel) (pa_cons (ha X C g) (pa_cons (pe_bltn (v := .ty (tyN t)) (gl_of g hg2) (g.blt _ hb2) hv rfl hn hdb) pa_nil rfl) (star_cons hst _ _)) (by decide) (by decide) (star_cons hst _ _) rfl).pq fun σ H Q ⟨μ, ρ, S, he, hs, h⟩ => by
    unfold evE at h
    refine ⟨μ, ρ, S, he, hs, h.bind.imp fun y S1 μ1 H1 _ e1 s1 h1 v rv => ?_⟩
    obtain ⟨k, ek, h1⟩ := h1.may
    obtain ⟨n, ty, hk⟩ := ty_rp s1 rv ek
    exact ⟨v, .ty (tyN t), .type n, .type (tyN t), k, rfl, .ty _, ty, kit_ty hk, h1.at s1 _ rfl⟩

/-! ### methods of lists -/
section
variable {K : Fg} {μ : List Addr} {H : Hp} {S : Sto} {x : D} {v : V}
/-- a value that is a list of the store -/
theorem Po.withL {α : Type} {f : Nat → List D → Res α} {P : α → Sto → List Addr → Hp → Prop} (hs : StOk K μ H S) (r : Rp K μ H x v) (h : Po K μ H (withL S x f) P) : ∃ i ds a vs, x = .ref i ∧ v = .ref a ∧ S[i]? = some (.lst ds) ∧ μ[i]? = some a ∧ H a = some (.lst vs) ∧ RpA K μ H ds vs ∧ ds.length ≤ sizeLine ∧ Po K μ H (f i ds) P := by
  cases x with
  | ref i =>
    have h : Po K μ H (match S[i]? with
      | some (Ob.lst ds) => f i ds
      | none => Res.bad) P := h
    cases ei : S[i]? with
    | none => rw [ei] at h; exact h.elim
    | some o =>
      rw [ei] at h
      cases o with
      | lst ds =>
        obtain ⟨a, vs, e1, e2, h1, h2, h3⟩ := rp_ref r hs ei
        exact ⟨i, ds, a, vs, rfl, e1, ei, e2, h1, h2, h3, h⟩
  | _ => exact (show False from h).elim
theorem ty_lst {a : Addr} {vs : List V} (h : H a = some (.lst vs)) : tyV K "list" (.ref a) H := .inl ⟨rfl, _, .of h⟩
end
theorem few1 (cpos : Pos) (env : Env) (hst : notStar e = true) : ((backTo cpos (starEach [e] env)).all (fun x => !x.1) && (backToKw cpos (keywordEach [] env)).all (fun x => x.1.isSome)
      && decide ([e].length + ([] : List Keyword).length + (if ([] : List Keyword).isEmpty then 0 else 1) < 30)) = true := by
  rw [star_cons hst]
  rfl
/-- a method with one argument, a method without -/
theorem sd_bm1 {nm : Str} {id : String} {r : V → List V → Hp → VK → Prop} {ap : Pos} {f : D → D → Sto → Res D} {cx : CE} (slot : Slot "list" nm id) (hty : typeOf (.builtin id) = pure (.type "method_descriptor")) (hm : ∀ X : Cx, MtR X id r)
    (ho : ∀ (K : Fg) (μ : List Addr) (H : Hp) (S : Sto) (x y : D) (v u : V) (Q : VK), StOk K μ H S → Rp K μ H x v → Rp K μ H y u → Po K μ H (f x y S) (fun d _ μ' H' => ∀ v, Rp K μ' H' d v → Q v H') → r v [u] H Q)
    (hev : ∀ C ρ S, evE C cx ρ S = (evE C ca ρ S).bind fun o S1 => withL S1 o fun _ _ => (evE C cb ρ S1).bind fun v S2 => f o v S2)
    (hc : notCall a = true) (hl : (ap.endLine == pos.line) = true) (hst : notStar e = true) (ha : SdE p a ca) (hb : SdE p e cb) : SdE p (.Call (.Attribute a nm ap) [e] [] pos) cx := fun X C g =>
  (pe_bm PySem.F.plainAttrs_list slot hty (hm X) (ha X C g) (pa_cons (hb X C g) pa_nil (star_cons hst [] _)) (plain_base hc _ _ _) (few1 _ _ hst) hl (star_cons hst [] _) rfl).pq fun σ H Q ⟨μ, ρ, S, he, hs, h⟩ => by
    rw [hev] at h
    refine ⟨μ, ρ, S, he, hs, h.bind.imp fun x S1 μ1 H1 _ e1 s1 h1 v rv => ?_⟩
    obtain ⟨i, ds, a0, vs, rfl, rfl, ei, ea, k1, k2, k3, h1⟩ := h1.withL s1 rv
    refine ⟨ty_lst k1, μ1, ρ, S1, he.mono e1, s1, h1.bind.imp fun y S2 μ2 H2 _ e2 s2 h2 w rw_ => ?_⟩
    exact ho X.K μ2 H2 S2 (.ref i) y _ w Q s2 (rv.mono e2) rw_ h2
theorem sd_app {ap : Pos} (hc : notCall a = true) (hl : (ap.endLine == pos.line) = true) (hst : notStar e = true) (ha : SdE p a ca) (hb : SdE p e cb) : SdE p (.Call (.Attribute a "append" ap) [e] [] pos) (.app ca cb) :=
  sd_bm1 (f := appD) PySem.F.slot_list_append PySem.F.type_list_append (fun X => mt_append) (fun K μ H S x y v u Q hs rx ry h => by
    obtain ⟨i, ds, a0, vs, rfl, rfl, ei, ea, k1, k2, k3, h⟩ := Po.withL hs rx h
    obtain ⟨hz, h⟩ := h.ite
    obtain ⟨x1, x2⟩ := hs.put ea (k2.append (.cons ry .nil)) (by rw [List.length_append]; exact hz)
    exact ⟨a0, vs, u, rfl, rfl, k1, by rw [← k2.length]; exact hz, h _ _ x1 x2 _ rfl⟩) (fun C ρ S => by rw [evE]) hc hl hst ha hb
theorem sd_popAt {ap : Pos} (hc : notCall a = true) (hl : (ap.endLine == pos.line) = true) (hst : notStar e = true) (ha : SdE p a ca) (hb : SdE p e cb) : SdE p (.Call (.Attribute a "pop" ap) [e] [] pos) (.popAt ca cb) :=
  sd_bm1 (f := popAtD) PySem.F.slot_list_pop PySem.F.type_list_pop (fun X => mt_popAt) (fun K μ H S x y v u Q hs rx ry h => by
    obtain ⟨i, ds, a0, vs, rfl, rfl, ei, ea, k1, k2, k3, h⟩ := Po.withL hs rx h
    cases y with
    | int j =>
      obtain ⟨⟨hz1, hz2⟩, h⟩ := Po.ite (show Po K μ H (if -(2 ^ 63) ≤ j ∧ j < 2 ^ 63 then may (seqIndex? j ds.length) fun k => may ds[k]? fun d => Res.ok d (S.set i (Ob.lst (ds.eraseIdx k))) else Res.bad) _ from h)
      obtain ⟨k, ek, h⟩ := h.may
      obtain ⟨d, ed, h⟩ := h.may
      obtain ⟨w, ew, rw_⟩ := k2.get ed
      obtain ⟨x1, x2⟩ := hs.put ea (k2.eraseIdx k) (Nat.le_trans (len_erase _ _) k3)
      exact ⟨a0, vs, j, k, w, rfl, by rw [show u = V.int j from ry], k1, hz1, hz2, by rw [← k2.length]; exact ek, ew, h _ _ x1 x2 _ (rw_.mono x1)⟩
    | _ => exact (show False from h).elim) (fun C ρ S => by rw [evE]) hc hl hst ha hb
theorem RpA.dropLast {K : Fg} {μ : List Addr} {H : Hp} {ds : List D} {vs : List V} (r : RpA K μ H ds vs) : RpA K μ H ds.dropLast vs.dropLast := by
  rw [List.dropLast_eq_take, List.dropLast_eq_take, r.length]
  exact r.take _
theorem sd_pop {ap : Pos} (hc : notCall a = true) (hl : (ap.endLine == pos.line) = true) (ha : SdE p a ca) : SdE p (.Call (.Attribute a "pop" ap) [] [] pos) (.pop ca) := fun X C g =>
  (pe_bm0 (name := "pop") PySem.F.plainAttrs_list PySem.F.slot_list_pop PySem.F.type_list_pop mt_pop (ha X C g) (plain_base hc _ _ _) hl).pq fun σ H Q ⟨μ, ρ, S, he, hs, h⟩ => by
    unfold evE at h
    refine ⟨μ, ρ, S, he, hs, h.bind.imp fun x S1 μ1 H1 _ e1 s1 h1 v rv => ?_⟩
    obtain ⟨i, ds, a0, vs, rfl, rfl, ei, ea, k1, k2, k3, h1⟩ := Po.withL s1 rv h1
    obtain ⟨d, ed, h1⟩ := h1.may
    obtain ⟨w, ew, rw_⟩ := k2.get ed
    obtain ⟨x1, x2⟩ := s1.put ea k2.dropLast (by rw [List.length_dropLast]; omega)
    exact ⟨ty_lst k1, a0, vs, w, rfl, rfl, k1, by rw [← k2.length]; exact ew, h1 _ _ x1 x2 _ (rw_.mono x1)⟩
theorem sd_ext {ap : Pos} (hc : notCall a = true) (hl : (ap.endLine == pos.line) = true) (hst : notStar e = true) (ha : SdE p a ca) (hb : SdR p e cr) : SdE p (.Call (.Attribute a "extend" ap) [e] [] pos) (.ext ca cr) := fun X C g =>
  (pe_bm (name := "extend") PySem.F.plainAttrs_list PySem.F.slot_list_extend PySem.F.type_list_extend mt_extend (ha X C g) (pa_cons (hb X C g) pa_nil (star_cons hst [] _)) (plain_base hc _ _ _) (few1 _ _ hst) hl (star_cons hst [] _) rfl).pq fun σ H Q ⟨μ, ρ, S, he, hs, h⟩ => by
    unfold evE at h
    refine ⟨μ, ρ, S, he, hs, h.bind.imp fun x S1 μ1 H1 _ e1 s1 h1 v rv => ?_⟩
    obtain ⟨i, ds, a0, vs, rfl, rfl, ei, ea, k1, k2, k3, h1⟩ := h1.withL s1 rv
    refine ⟨ty_lst k1, μ1, ρ, S1, he.mono e1, s1, h1.bind.imp fun y S2 μ2 H2 _ e2 s2 h2 w rw_ => ?_⟩
    obtain ⟨i', es, a', us, e3, e4, ej, eb, l1, l2, l3, h2⟩ := Po.withL s2 (rv.mono e2) h2
    cases e3
    cases e4
    obtain ⟨fs, ef, h2⟩ := h2.may
    obtain ⟨hz, h2⟩ := h2.ite
    obtain ⟨b, ws, rfl, m1, m2, m3⟩ := tr_rv s2 rw_ ef
    obtain ⟨x1, x2⟩ := s2.put eb (l2.append m2) (by rw [List.length_append]; exact hz)
    exact ⟨a0, b, us, ws, rfl, rfl, l1, m1, by rw [← l2.length, ← m2.length]; exact hz, h2 _ _ x1 x2 _ rfl⟩

theorem rp_strs {K : Fg} {μ : List Addr} {H : Hp} : ∀ {ds : List D} {vs : List V} {ys : List Str}, RpA K μ H ds vs → strsOf ds = some ys → vs = ys.map V.str
  | [], _, _, h, e => by
    cases e
    exact h
  | .str x :: ds, _, ys, ⟨v, r, e1, h1, h2⟩, e => by
    have e : (strsOf ds).map (x :: ·) = some ys := e
    cases e2 : strsOf ds with
    | none => rw [e2] at e; cases e
    | some zs =>
      rw [e2] at e
      cases e
      rw [e1, rp_strs h2 e2]
      cases h1
      rfl
  | .non :: _, _, _, _, e => nomatch e
  | .bl _ :: _, _, _, _, e => nomatch e
  | .int _ :: _, _, _, _, e => nomatch e
  | .tup _ :: _, _, _, _, e => nomatch e
  | .fix _ :: _, _, _, _, e => nomatch e
  | .ref _ :: _, _, _, _, e => nomatch e
/-- 'text'.join(r) -/
theorem sd_join {ap cp : Pos} {s : Str} {j : _} (hl : (ap.endLine == pos.line) = true) (hst : notStar e = true) (hb : SdR p e cr) : SdE p (.Call (.Attribute (.Constant (.str s) j cp) "join" ap) [e] [] pos) (.join s cr) := fun X C g =>
  (pe_join (o := .Constant (.str s) j cp) pe_str (hb X C g) (star_cons hst [] _) rfl hl).pq fun σ H Q ⟨μ, ρ, S, he, hs, h⟩ => by
    unfold evE at h
    refine ⟨⟨s, rfl⟩, μ, ρ, S, he, hs, h.bind.imp fun w S1 μ1 H1 _ e1 s1 h1 v rv => ?_⟩
    obtain ⟨ds, e2, h1⟩ := h1.may
    obtain ⟨ys, e3, h1⟩ := h1.may
    obtain ⟨z, h1⟩ := h1.ask
    obtain ⟨a, vs, rfl, q1, q2, _⟩ := sq_rv s1 rv e2
    have ev := rp_strs q2 e3
    subst ev
    exact ⟨s, a, ys, rfl, rfl, q1.imp id And.left, z, h1.at s1 _ rfl⟩

/-! ### in, not in -/
theorem flat_rp {K : Fg} {μ : List Addr} {H : Hp} {x y : D} {v u : V} (rx : Rp K μ H x v) (f : flatD x = true) : flatV v = true := by
  cases x <;> first | (cases f; done) | (cases rx; rfl)
theorem eqF_rp {K : Fg} {μ : List Addr} {H : Hp} {x y : D} {v u : V} (rx : Rp K μ H x v) (ry : Rp K μ H y u) (fx : flatD x = true) (fy : flatD y = true) : eqV u v = eqF y x := by
  cases x <;> cases y <;> first | (cases fx; done) | (cases fy; done) | (cases rx; cases ry; rfl)
theorem flats_rp {K : Fg} {μ : List Addr} {H : Hp} : ∀ {ds : List D} {vs : List V}, RpA K μ H ds vs → ds.all flatD = true → vs.all flatV = true
  | [], _, h, _ => by rw [show _ = ([] : List V) from h]; rfl
  | d :: ds, _, ⟨v, r, e, h1, h2⟩, h => by
    rw [List.all_cons, Bool.and_eq_true] at h
    rw [e, List.all_cons, flat_rp (y := d) (u := v) h1 h.1, flats_rp h2 h.2]
    rfl
theorem anyF_rp {K : Fg} {μ : List Addr} {H : Hp} {x : D} {v : V} (rx : Rp K μ H x v) (fx : flatD x = true) : ∀ {ds : List D} {vs : List V}, RpA K μ H ds vs → ds.all flatD = true → inV v vs = ds.any fun y => eqF y x
  | [], _, h, _ => by rw [show _ = ([] : List V) from h]; rfl
  | d :: ds, _, ⟨w, r, e, h1, h2⟩, h => by
    rw [List.all_cons, Bool.and_eq_true] at h
    rw [e]
    show (eqV w v || inV v r) = _
    rw [List.any_cons, eqF_rp rx h1 fx h.1, anyF_rp rx fx h2 h.2]
def rIn2 (K : Fg) (neg : Bool) : R2 := fun x y H Q => rIn K neg x y H Q ∨ ∃ d ds, Dp K H x d ∧ Dp K H y (.list ds) ∧ SeqAt.shaped d = true ∧ SeqAt.shaped (.list ds) = true ∧ Q (.bl (if neg then !ds.any (fun z => PyData.eqv z d) else ds.any fun z => PyData.eqv z d)) H
theorem os_in {K : Fg} {μ : List Addr} {H : Hp} {S : Sto} {x : D} {r : RV} {v u : V} {Q : VK} {k : Bool} (neg : Bool) (hs : StOk K μ H S) (rx : Rp K μ H x v) (rr : RvR K μ H r u) (h : inD x r S = some k) (q : Q (.bl (if neg then !k else k)) H) : rIn2 K neg v u H Q := by
  unfold inD at h
  cases e1 : sqOf S r with
  | none => rw [e1] at h; cases h
  | some ds =>
    rw [e1] at h
    have h : (if (flatD x && ds.all flatD) = true then some (ds.any fun y => eqF y x) else (match lsOf S r with
      | some ds => (match toP S x, toPs S ds with
        | some p, some ps => if (SeqAt.shaped p && SeqAt.shaped (.list ps)) = true then some (ps.any fun q => PyData.eqv q p) else none
        | _, _ => none)
      | none => none)) = some k := h
    split at h
    · rename_i hf
      rw [Bool.and_eq_true] at hf
      cases h
      obtain ⟨a, vs, rfl, h1, h2, _⟩ := sq_rv hs rr e1
      refine .inl ⟨a, vs, rfl, sq_or h1, flat_rp (y := x) (u := v) rx hf.1, flats_rp h2 hf.2, ?_⟩
      rw [anyF_rp rx hf.1 h2 hf.2]
      exact q
    · cases e2 : lsOf S r with
      | none => rw [e2] at h; cases h
      | some es =>
        rw [e2] at h
        obtain ⟨a, vs, rfl, h1, h2, _⟩ := ls_rv hs rr e2
        have h : (match toP S x, toPs S es with
          | some p, some ps => if (SeqAt.shaped p && SeqAt.shaped (.list ps)) = true then some (ps.any fun q => PyData.eqv q p) else none
          | _, _ => none) = some k := h
        cases e3 : toP S x with
        | none => rw [e3] at h; cases h
        | some p1 =>
          cases e4 : toPs S es with
          | none => rw [e3, e4] at h; cases h
          | some ps =>
            rw [e3, e4] at h
            have h : (if (SeqAt.shaped p1 && SeqAt.shaped (.list ps)) = true then some (ps.any fun q => PyData.eqv q p1) else none) = some k := h
            split at h
            · rename_i hf
              rw [Bool.and_eq_true] at hf
              cases h
              exact .inr ⟨p1, ps, toP_dp hs rx e3, .lst h1 (toPs_dp hs h2 e4), hf.1, hf.2, q⟩
            · cases h
theorem sc_in (hm : behindInMarks .In b = false) (ha : SdE p a ca) (hb : SdR p b cr) : SdC p (.Compare a [.In] [b] pos) (.inr ca cr) := fun X C g => by
  have hu := g.un
  have ho : OpR X (compareOp .In) (rIn2 X.K false) := op_in_seq.or (op_inD (by omega))
  refine ⟨_, pe_cmpR ho (ha X C g) (hb X C g) hm, pt_cmpR ho (ha X C g) (hb X C g) hm, fun σ H Q ⟨μ, ρ, S, he, hs, h⟩ => ?_⟩
  unfold evE at h
  refine ⟨μ, ρ, S, he, hs, h.bind.imp fun x S1 μ1 H1 _ e1 s1 h1 v rv => ?_⟩
  refine ⟨μ1, ρ, S1, he.mono e1, s1, h1.bind.imp fun y S2 μ2 H2 _ e2 s2 h2 u ru => ?_⟩
  obtain ⟨k, ek, h2⟩ := h2.may
  exact os_in false s2 (rv.mono e2) ru ek (h2.at s2 _ rfl)
theorem sc_notIn (hm : behindInMarks .NotIn b = false) (ha : SdE p a ca) (hb : SdR p b cr) : SdC p (.Compare a [.NotIn] [b] pos) (.notInr ca cr) := fun X C g => by
  have hu := g.un
  have ho : OpR X (compareOp .NotIn) (rIn2 X.K true) := op_notIn_seq.or (op_notInD (by omega))
  refine ⟨_, pe_cmpR ho (ha X C g) (hb X C g) hm, pt_cmpR ho (ha X C g) (hb X C g) hm, fun σ H Q ⟨μ, ρ, S, he, hs, h⟩ => ?_⟩
  unfold evE at h
  refine ⟨μ, ρ, S, he, hs, h.bind.imp fun x S1 μ1 H1 _ e1 s1 h1 v rv => ?_⟩
  refine ⟨μ1, ρ, S1, he.mono e1, s1, h1.bind.imp fun y S2 μ2 H2 _ e2 s2 h2 u ru => ?_⟩
  obtain ⟨k, ek, h2⟩ := h2.may
  exact os_in true s2 (rv.mono e2) ru ek (h2.at s2 _ rfl)
theorem b_in : ∀ C ρ S d S', evE C (.inr ca cr) ρ S = .ok d S' → isB d = true := fun C ρ S d S' h => by
  unfold evE at h
  obtain ⟨x, S1, _, h⟩ := bind_ok h
  obtain ⟨y, S2, _, h⟩ := bind_ok h
  obtain ⟨k, _, h⟩ := may_ok h
  cases h; rfl
theorem b_notIn : ∀ C ρ S d S', evE C (.notInr ca cr) ρ S = .ok d S' → isB d = true := fun C ρ S d S' h => by
  unfold evE at h
  obtain ⟨x, S1, _, h⟩ := bind_ok h
  obtain ⟨y, S2, _, h⟩ := bind_ok h
  obtain ⟨k, _, h⟩ := may_ok h
  cases h; rfl
end
end PQ

/-! New lists; what is walked; comprehensions. -/
namespace PQ
open PySem PySem.Spec PyProof.Rows L2
section
variable {p : Pl} {a b c e : Expr} {ca cb cc : CE} {cr cr2 : CR} {pos q : Pos}
/-- one's own new list at l -/
theorem own_new {K : Fg} {μ : List Addr} {H : Hp} {S : Sto} {ds : List D} {vs : List V} {l : Addr} (s1 : StOk K μ H S) (r : RpA K μ H ds vs) (hl : H l = none) : l ∉ μ ∧ RpA K μ (upd H l (.lst vs)) ds vs := by
  refine ⟨fun m => ?_, r.mono (s1.fresh hl _)⟩
  obtain ⟨w, ew, _⟩ := s1.mem m
  rw [hl] at ew; cases ew
theorem sq_cat (ha : SdR p a cr) (hb : SdR p b cr2) : SdQ p (.BinOp a .Add b pos) (.cat cr cr2) := fun X C g =>
  (pe_op op_cat (ha X C g) (hb X C g)).pq fun σ H Q ⟨μ, ρ, S, he, hs, h⟩ => by
    unfold evQ at h
    refine ⟨μ, ρ, S, he, hs, h.bind.imp fun x S1 μ1 H1 _ e1 s1 h1 v rv => ?_⟩
    refine ⟨μ1, ρ, S1, he.mono e1, s1, h1.bind.imp fun y S2 μ2 H2 _ e2 s2 h2 u ru => ?_⟩
    obtain ⟨ds, ed, h2⟩ := h2.may
    obtain ⟨es, ee, h2⟩ := h2.may
    obtain ⟨z, h2⟩ := h2.ask
    obtain ⟨a, vs, rfl, k1, k2, k3⟩ := tr_rv s2 (rv.mono e2) ed
    obtain ⟨b, us, rfl, l1, l2, l3⟩ := tr_rv s2 ru ee
    refine ⟨a, b, vs, us, rfl, rfl, k1, l1, by rw [← k2.length, ← l2.length]; exact z, fun l hl => ?_⟩
    obtain ⟨n1, n2⟩ := own_new s2 (k2.append l2) hl
    exact h2 μ2 _ (s2.fresh hl _) (s2.freshOk hl _) l _ (e1.alive _ (e2.alive _ hl)) upd_same n1 n2 (by rw [List.length_append]; exact z)

/-! ### sorted -/
def rSortD (K : Fg) : List V → Hp → VK → Prop := fun vs H Q => ∃ (a : Addr) (xs : List V) (ps : List PyData), vs = [V.ref a] ∧ SqL K H a xs ∧ DpAll K H xs ps ∧ PySem.W.AllAlike ps ∧ PySem.W.Sortable ps ∧ (∀ p ∈ ps, p.depth ≤ 64) ∧ xs.length ≤ sizeLine ∧
  ∀ l, H l = none → Q (.ref l) (upd H l (.lst (((xs.zip ps).mergeSort (PySem.W.dataLe false (·.2))).map (·.1))))
theorem dpAll_zip {K : Fg} {H : Hp} : ∀ {xs : List V} {ps : List PyData}, DpAll K H xs ps → (xs.zip ps).map (·.2) = ps ∧ (xs.zip ps).map (·.1) = xs
  | _, _, .nil => ⟨rfl, rfl⟩
  | _, _, .cons h t => by
    obtain ⟨h1, h2⟩ := dpAll_zip t
    rw [List.zip_cons_cons, List.map_cons, List.map_cons, h1, h2]
    exact ⟨rfl, rfl⟩
theorem cr_sortD {X : Cx} (hu : X.A.units + 70 < cLine) : CallR X (.builtin "sorted") (rSortD X.K) := by
  intro pins s σ H vs us Q I r h
  obtain ⟨a, xs, ps, rfl, hs, hp, hal, hso, hdp, hz, q⟩ := h
  obtain ⟨its, rv, hl, _⟩ := I.list hs
  rw [Vals.ref1 r]
  obtain ⟨z2, z1⟩ := dpAll_zip hp
  have e1 : ∀ {xs : List V} {ps : List PyData} {its : List Value}, DpAll X.K H xs ps → Vals xs its → PySem.W.EachIs (fun (u : Value) (b : V × PyData) => RelV b.1 u) its (xs.zip ps) := by
    intro xs ps its h
    induction xs generalizing ps its with
    | nil => intro r; cases h; cases r; exact .nil
    | cons x xs ih => intro r; cases h with | cons h1 h2 => cases r with | cons r1 r2 => exact .cons r1 (ih h2 r2)
  have e2 : ∀ {xs : List V} {ps : List PyData} {its : List Value}, DpAll X.K H xs ps → Vals xs its → PySem.W.EachIs (fun (u : Value) (b : V × PyData) => ∃ as, Reads s.heap u b.2 as) its (xs.zip ps) := by
    intro xs ps its h
    induction xs generalizing ps its with
    | nil => intro r; cases h; cases r; exact .nil
    | cons x xs ih => intro r; cases h with | cons h1 h2 => cases r with | cons r1 r2 => exact .cons (Dp.reads I _ _ _ h1 r1) (ih h2 r2)
  have e3 : ∀ {out : List Value} {bs : List (V × PyData)}, PySem.W.EachIs (fun (u : Value) (b : V × PyData) => RelV b.1 u) out bs → Vals (bs.map (·.1)) out := by
    intro out bs h
    induction h with
    | nil => exact .nil
    | cons h _ ih => exact .cons h ih
  have hlen : (xs.zip ps).length = xs.length := by
    have := congrArg List.length z1
    rw [List.length_map] at this
    exact this
  refine PySem.W.sorted_data (vs := its) (bs := xs.zip ps) (enc := fun b : V × PyData => b.2) hl.isList (e1 hp rv) (e2 hp rv) (by rw [z2]; exact hal) (by rw [z2]; exact hso) (by rw [hlen]; exact hz) (fun b hb => ?_) fun out ol oe => ?_
  · have hb2 : b.2 ∈ ps := by rw [← z2]; exact List.mem_map_of_mem hb
    have := hdp b.2 hb2
    omega
  · obtain ⟨ep, he'⟩ := PyProof.Rows.sortedAll_at s.heap its out.toArray
    have lz : (((xs.zip ps).mergeSort (PySem.W.dataLe false (·.2))).map (·.1)).length ≤ sizeLine := by
      rw [List.length_map, List.length_mergeSort, hlen]
      exact hz
    exact ⟨.ref _, _, I.laid (t' := s.toks) (o := .lst (((xs.zip ps).mergeSort (PySem.W.dataLe false (·.2))).map (·.1))) (fun _ _ => PyProof.Rows.sortedAll_old) (Nat.le_succ _) ⟨lz, out, ep, e3 oe, he'⟩, rfl, q _ (I.hok.fresh (Nat.le_succ _))⟩
theorem toPs_map {S : Sto} : ∀ {ds : List D} {ps : List PyData}, toPs S ds = some ps → ds.map (fun d => (toP S d).getD .none) = ps
  | [], _, h => by cases h; rfl
  | d :: ds, ps, h => by
    have h : (match toPW (refP S 8) d, toPsW (refP S 8) ds with
      | some p, some ps => some (p :: ps)
      | _, _ => none) = some ps := h
    cases e1 : toPW (refP S 8) d with
    | none => rw [e1] at h; cases h
    | some p1 =>
      cases e2 : toPsW (refP S 8) ds with
      | none => rw [e1, e2] at h; cases h
      | some qs =>
        rw [e1, e2] at h
        cases h
        rw [List.map_cons, toPs_map (ds := ds) e2]
        show (toPW (refP S 8) d).getD .none :: qs = _
        rw [e1]
        rfl
theorem sort_rp {K : Fg} {μ : List Addr} {H : Hp} {S : Sto} {ds : List D} {vs : List V} {ps : List PyData} (r : RpA K μ H ds vs) (h : toPs S ds = some ps) :
    RpA K μ H (ds.mergeSort (PySem.W.dataLe false fun d => (toP S d).getD .none)) (((vs.zip ps).mergeSort (PySem.W.dataLe false (·.2))).map (·.1)) := by
  have hm := toPs_map h
  -- the pairs of a datum and its value
  have hz : ∀ {ds : List D} {vs : List V}, RpA K μ H ds vs → (ds.zip vs).map (·.1) = ds ∧ (ds.zip vs).map (·.2) = vs ∧ ∀ t ∈ ds.zip vs, Rp K μ H t.1 t.2 := by
    intro ds
    induction ds with
    | nil => intro vs r; rw [show vs = [] from r]; exact ⟨rfl, rfl, fun _ h => nomatch h⟩
    | cons d ds ih =>
      intro vs r
      obtain ⟨v, r', e, h1, h2⟩ := r
      subst e
      obtain ⟨i1, i2, i3⟩ := ih h2
      rw [List.zip_cons_cons, List.map_cons, List.map_cons, i1, i2]
      refine ⟨rfl, rfl, fun t ht => ?_⟩
      rcases List.mem_cons.mp ht with rfl | ht
      · exact h1
      · exact i3 t ht
  obtain ⟨z1, z2, z3⟩ := hz r
  have build : ∀ ts : List (D × V), (∀ t ∈ ts, Rp K μ H t.1 t.2) → RpA K μ H (ts.map (·.1)) (ts.map (·.2)) := by
    intro ts
    induction ts with
    | nil => intro _; exact rfl
    | cons t ts ih => intro h; exact .cons (h t List.mem_cons_self) (ih fun u hu => h u (List.mem_cons_of_mem _ hu))
  have l1 : ds.mergeSort (PySem.W.dataLe false fun d => (toP S d).getD .none) = ((ds.zip vs).mergeSort (PySem.W.dataLe false fun t : D × V => (toP S t.1).getD .none)).map (·.1) := by
    have q := List.map_mergeSort (r := PySem.W.dataLe false fun t : D × V => (toP S t.1).getD .none) (s := PySem.W.dataLe false fun d : D => (toP S d).getD .none) (f := fun t : D × V => t.1) (l := ds.zip vs) (fun a _ b _ => rfl)
    rw [z1] at q
    exact q.symm
  have l2 : (vs.zip ps) = (ds.zip vs).map fun t => (t.2, (toP S t.1).getD .none) := by
    rw [← hm]
    clear hm h z1 z2 z3 l1
    induction ds generalizing vs with
    | nil => rw [show vs = [] from r]; rfl
    | cons d ds ih =>
      obtain ⟨v, r', e, h1, h2⟩ := r
      subst e
      rw [List.map_cons, List.zip_cons_cons, List.zip_cons_cons, List.map_cons, ih h2]
  have l3 : (vs.zip ps).mergeSort (PySem.W.dataLe false (·.2)) = ((ds.zip vs).mergeSort (PySem.W.dataLe false fun t : D × V => (toP S t.1).getD .none)).map fun t => (t.2, (toP S t.1).getD .none) := by
    have q := List.map_mergeSort (r := PySem.W.dataLe false fun t : D × V => (toP S t.1).getD .none) (s := PySem.W.dataLe false fun t : V × PyData => t.2) (f := fun t : D × V => (t.2, (toP S t.1).getD .none)) (l := ds.zip vs) (fun a _ b _ => rfl)
    rw [l2]
    exact q.symm
  rw [l1, l3, List.map_map]
  exact build _ fun t ht => z3 t (List.mem_mergeSort.mp ht)
theorem sq_sorted (hb : ("sorted" : Str) ∈ p.B) (hg : p.sc.names.lookup ("sorted" : Str) = some .globalImplicit) (hst : notStar e = true) (ha : SdR p e cr) : SdQ p (.Call (.Name "sorted" q) [e] [] pos) (.sorted cr) := fun X C g =>
  (pe_callB (cr_sortD (by have := g.un; omega)) (gl_of g hg) (g.blt _ hb) (by decide +kernel) (pa_cons (ha X C g) pa_nil (star_cons hst [] _)) (by decide) (by decide) (star_cons hst [] _) rfl).pq fun σ H Q ⟨μ, ρ, S, he, hs, h⟩ => by
    unfold evQ at h
    refine ⟨μ, ρ, S, he, hs, h.bind.imp fun x S1 μ1 H1 _ e1 s1 h1 v rv => ?_⟩
    obtain ⟨ds, eds, h1⟩ := h1.may
    obtain ⟨a, vs, rfl, h2, h3, h4⟩ := ls_rv s1 rv eds
    unfold sortD at h1
    cases ep : toPs S1 ds with
    | none => rw [ep] at h1; exact h1.elim
    | some ps =>
      rw [ep] at h1
      obtain ⟨⟨z1, z2, z3⟩, h1⟩ := Po.ask h1
      refine ⟨a, vs, ps, rfl, h2, toPs_dp s1 h3 ep, z1, z2, z3, by rw [← h3.length]; exact h4, fun l hl => ?_⟩
      have hr := sort_rp h3 ep
      obtain ⟨n1, n2⟩ := own_new s1 hr hl
      exact h1 μ1 _ (s1.fresh hl _) (s1.freshOk hl _) l _ (e1.alive _ hl) upd_same n1 n2 (by rw [List.length_mergeSort]; exact h4)

/-! ### list(range(..)) -/
theorem rgD_rp {K : Fg} {μ : List Addr} {H : Hp} (i j : Int) : RpA K μ H (rgD i j) (rgV i j) := by
  unfold rgD rgV
  generalize (List.range (j - i).toNat) = l
  induction l with
  | nil => exact rfl
  | cons k l ih => exact .cons rfl ih
theorem rgD_len (i j : Int) : (rgD i j).length = (j - i).toNat := by unfold rgD; rw [List.length_map, List.length_range]
theorem sq_listRg1 {q2 pos2 : Pos} (hb : ("list" : Str) ∈ p.B) (hg : p.sc.names.lookup ("list" : Str) = some .globalImplicit) (hb2 : ("range" : Str) ∈ p.B) (hg2 : p.sc.names.lookup ("range" : Str) = some .globalImplicit) (hst : notStar a = true) (ha : SdE p a ca) :
    SdQ p (.Call (.Name "list" q) [.Call (.Name "range" q2) [a] [] pos2] [] pos) (.listRg (.lit (.int 0)) ca) := fun X C g =>
  (pe_listRg g.calm (gl_of g hg) (g.blt _ hb) (prg_1 (gl_of g hg2) (g.blt _ hb2) (ha X C g) (star_cons hst [] _)) rfl).pq fun σ H Q ⟨μ, ρ, S, he, hs, h⟩ => by
    have h0 : evE C (.lit (.int 0)) ρ S = Res.ok (D.int 0) S := by rw [evE]
    unfold evQ at h
    rw [h0] at h
    refine ⟨μ, ρ, S, he, hs, Po.imp (Po.bind (r := evE C ca ρ S) h) fun y S1 μ1 H1 _ e1 s1 h1 v rv => ?_⟩
    cases y with
    | int j =>
      obtain ⟨z, h1⟩ := Po.ask (show Po X.K μ1 H1 (ask (RgOk 0 j) (Res.ok (rgD 0 j) S1)) _ from h1)
      refine ⟨j, rv, z, fun l hl => ?_⟩
      obtain ⟨n1, n2⟩ := own_new s1 (rgD_rp 0 j) hl
      exact h1 μ1 _ (s1.fresh hl _) (s1.freshOk hl _) l _ (e1.alive _ hl) upd_same n1 n2 (by rw [rgD_len, sizeLine_eq]; have := z.2.2.2.2; omega)
    | _ => exact (show False from h1).elim
theorem sq_listRg2 {q2 pos2 : Pos} (hb : ("list" : Str) ∈ p.B) (hg : p.sc.names.lookup ("list" : Str) = some .globalImplicit) (hb2 : ("range" : Str) ∈ p.B) (hg2 : p.sc.names.lookup ("range" : Str) = some .globalImplicit) (hst : notStar a = true) (hst2 : notStar b = true) (ha : SdE p a ca) (hb' : SdE p b cb) :
    SdQ p (.Call (.Name "list" q) [.Call (.Name "range" q2) [a, b] [] pos2] [] pos) (.listRg ca cb) := fun X C g =>
  (pe_listRg g.calm (gl_of g hg) (g.blt _ hb) (prg_2 (gl_of g hg2) (g.blt _ hb2) (ha X C g) (hb' X C g) (star_cons hst [b] _) (star_cons hst2 [] _) (star_any _ _ (show [b].all notStar = true by rw [List.all_cons, hst2]; rfl))) rfl).pq fun σ H Q ⟨μ, ρ, S, he, hs, h⟩ => by
    unfold evQ at h
    refine ⟨μ, ρ, S, he, hs, h.bind.imp fun x S1 μ1 H1 _ e1 s1 h1 v rv => ?_⟩
    refine ⟨μ1, ρ, S1, he.mono e1, s1, h1.bind.imp fun y S2 μ2 H2 _ e2 s2 h2 u ru => ?_⟩
    cases x with
    | int i =>
      cases y with
      | int j =>
        obtain ⟨z, h2⟩ := Po.ask (show Po X.K μ2 H2 (ask (RgOk i j) (Res.ok (rgD i j) S2)) _ from h2)
        refine ⟨i, j, rv, ru, z, fun l hl => ?_⟩
        obtain ⟨n1, n2⟩ := own_new s2 (rgD_rp i j) hl
        exact h2 μ2 _ (s2.fresh hl _) (s2.freshOk hl _) l _ (e1.alive _ (e2.alive _ hl)) upd_same n1 n2 (by rw [rgD_len, sizeLine_eq]; have := z.2.2.2.2; omega)
      | _ => exact (show False from h2).elim
    | _ => exact (show False from h2).elim
end

/-! ### what is walked -/
/-- the walk of t's items, as long as nothing of the walked list is changed -/
def ItOk (K : Fg) (μ₀ : List Addr) (H₀ : Hp) (t : Itv) (J : It) : Prop := ∀ μ H S, Ext K μ₀ H₀ μ H → StOk K μ H S → t.still S → (∀ i, i < t.items.length → J.go i H ∧ ∀ x H', J.yld i H x H' → H' = H ∧ ∃ d, t.items[i]? = some d ∧ Rp K μ H d x) ∧ J.stop t.items.length H
def tI (K : Fg) (f : En → Sto → Res Itv) : TI := fun σ H R => ∃ μ ρ S, EnvOk K μ H ρ σ ∧ StOk K μ H S ∧ Po K μ H (f ρ S) fun t S' μ' H' => ∀ J, ItOk K μ' H' t J → R J H'
def SdI (p : Pl) (tg e : Expr) (c : CI) : Prop := ∀ X C, Good X p C → PI X tg e (tI X.K (evI C c))
/-- a list or a tuple, whichever comes -/
def iSeq (K : Fg) (tl : TE) : TI := fun σ H R => tl σ H fun x H1 => ∃ a, x = .ref a ∧ (((∃ xs, SqL K H1 a xs) ∧ R (Itl K a) H1) ∨ ((∃ xs, SqT K H1 a xs) ∧ R (Itt K a) H1))
theorem pi_seq {X : Cx} {tg l : Expr} {tl : TE} (hl : PE X l tl) : PI X tg l (iSeq X.K tl) := by
  refine ⟨fun pins s σ H R I h => ?_⟩
  refine thn (hl.run pins s σ H _ I h) fun v s1 ⟨x, H1, I1, r1, q1⟩ => ?_
  obtain ⟨a, e, q⟩ := q1
  subst e
  cases r1
  rcases q with ⟨⟨xs, hq⟩, q⟩ | ⟨⟨xs, hq⟩, q⟩
  · obtain ⟨its, rv, p, hz⟩ := I1.list hq
    refine wpAny_pyIter_list p.isList ?_
    refine ⟨s1.heap.objs.size, [s1.heap.objs.size], _, _, H1, rfl, I1.kept (t' := s1.toks) fun b o e => Heap.get?_push_of_some _ e, turn_list a _, ⟨_, Heap.get?_push_size _ rfl, rfl, rfl⟩, fun b hb => ?_, q⟩
    have e : b = s1.heap.objs.size := by simpa using hb
    subst e
    exact I1.fpOk (Nat.le_refl _) (I1.hok.fresh (Nat.le_refl _))
  · obtain ⟨its, rv, p, hz⟩ := I1.tuple hq
    refine wpAny_pyIter_tuple (show s1.heap.IsTuple a its.toArray from p) ?_
    refine ⟨s1.heap.objs.size, [s1.heap.objs.size], _, _, H1, rfl, I1.kept (t' := s1.toks) fun b o e => Heap.get?_push_of_some _ e, turn_tuple a _, ⟨_, Heap.get?_push_size _ rfl, rfl, rfl⟩, fun b hb => ?_, q⟩
    have e : b = s1.heap.objs.size := by simpa using hb
    subst e
    exact I1.fpOk (Nat.le_refl _) (I1.hok.fresh (Nat.le_refl _))
theorem Ext.own {K : Fg} {μ μ' : List Addr} {H H' : Hp} (e : Ext K μ H μ' H') {a : Addr} {vs : List V} (h : H a = some (.lst vs)) (n : a ∉ μ) : SqL K H' a vs := .of (e.fr a _ h n)
section
variable {p : Pl} {a b e tg : Expr} {ca cb : CE} {cr : CR} {pos q : Pos}
theorem itl_ok {K : Fg} {μ : List Addr} {H : Hp} {a : Addr} {vs : List V} {ds : List D} (h : SqL K H a vs) (r : RpA K μ H ds vs) : (∀ i, i < ds.length → (Itl K a).go i H ∧ ∀ x H', (Itl K a).yld i H x H' → H' = H ∧ ∃ d, ds[i]? = some d ∧ Rp K μ H d x) ∧ (Itl K a).stop ds.length H := by
  have hl := r.length
  refine ⟨fun i hi => ⟨⟨vs, vs[i], h, List.getElem?_eq_getElem (by omega)⟩, fun x H' y => ⟨y.1, r.getV (y.2 vs h)⟩⟩, vs, h, by omega⟩
theorem itt_ok {K : Fg} {μ : List Addr} {H : Hp} {a : Addr} {vs : List V} {ds : List D} (h : SqT K H a vs) (r : RpA K μ H ds vs) : (∀ i, i < ds.length → (Itt K a).go i H ∧ ∀ x H', (Itt K a).yld i H x H' → H' = H ∧ ∃ d, ds[i]? = some d ∧ Rp K μ H d x) ∧ (Itt K a).stop ds.length H := by
  have hl := r.length
  refine ⟨fun i hi => ⟨⟨vs, vs[i], h, List.getElem?_eq_getElem (by omega)⟩, fun x H' y => ⟨y.1, r.getV (y.2 vs h)⟩⟩, vs, h, by omega⟩
theorem si_r (ha : SdR p e cr) : SdI p tg e (.r cr) := fun X C g => by
  refine ⟨fun pins s σ H R I h => (pi_seq (ha X C g)).run pins s σ H R I ?_⟩
  obtain ⟨μ, ρ, S, he, hs, h⟩ := h
  unfold evI at h
  refine ⟨μ, ρ, S, he, hs, h.bind.imp fun r S1 μ1 H1 _ e1 s1 h1 v rv => ?_⟩
  obtain ⟨t, et, h1⟩ := h1.may
  have h1 := h1.at s1
  cases r with
  | own ds =>
    cases et
    obtain ⟨a, vs, rfl, k1, k2, k3, _⟩ := rv
    exact ⟨a, rfl, .inl ⟨⟨vs, .of k1⟩, h1 _ fun μ H S x _ _ => itl_ok (x.own k1 k2) (k3.mono x)⟩⟩
  | val d =>
    cases d with
    | tup ds =>
      cases et
      obtain ⟨a, vs, rfl, k1, k2, _⟩ := rv
      exact ⟨a, rfl, .inr ⟨⟨vs, k1⟩, h1 _ fun μ H S x _ _ => itt_ok (x.tup _ _ k1) (k2.mono x)⟩⟩
    | fix ds =>
      cases et
      obtain ⟨a, vs, rfl, k1, k2, _⟩ := rv
      exact ⟨a, rfl, .inl ⟨⟨vs, k1.sq⟩, h1 _ fun μ H S x _ _ => itl_ok (x.fix _ _ k1).sq (k2.mono x)⟩⟩
    | ref i =>
      have et : (sqOf S1 (.val (.ref i))).map (fun ds => (⟨ds, some i⟩ : Itv)) = some t := et
      cases es : sqOf S1 (.val (.ref i)) with
      | none => rw [es] at et; cases et
      | some ds =>
        rw [es] at et
        cases et
        obtain ⟨a, rfl, ea⟩ := rv
        obtain ⟨a', vs, e', k1, k2, _⟩ := sq_rv (r := .val (.ref i)) s1 ⟨a, rfl, ea⟩ es
        cases e'
        have k1 : SqL X.K H1 a vs := k1.elim id fun z => by cases z.2
        refine ⟨a, rfl, .inl ⟨⟨vs, k1⟩, h1 _ fun μ H S x st sl => ?_⟩⟩
        obtain ⟨us, u1, u2, _⟩ := st.lst (show S[i]? = some (.lst ds) from sl) (x.get ea)
        exact itl_ok (SqL.of u1) u2
    | _ => cases et
theorem itr_ok {K : Fg} {μ : List Addr} {H : Hp} (i j : Int) : (∀ k, k < (rgD i j).length → (Itr i (j - i).toNat).go k H ∧ ∀ x H', (Itr i (j - i).toNat).yld k H x H' → H' = H ∧ ∃ d, (rgD i j)[k]? = some d ∧ Rp K μ H d x) ∧ (Itr i (j - i).toNat).stop (rgD i j).length H := by
  rw [rgD_len]
  refine ⟨fun k hk => ⟨hk, fun x H' y => ⟨y.1, .int (i + (k : Nat)), ?_, y.2⟩⟩, Nat.le_refl _⟩
  unfold rgD
  rw [List.getElem?_map, List.getElem?_range hk]
  rfl
theorem si_rg1 {pos2 : Pos} (hb : ("range" : Str) ∈ p.B) (hg : p.sc.names.lookup ("range" : Str) = some .globalImplicit) (hst : notStar a = true) (ha : SdE p a ca) : SdI p tg (.Call (.Name "range" q) [a] [] pos) (.rg (.lit (.int 0)) ca) := fun X C g => by
  refine ⟨fun pins s σ H R I h => (pi_range1 (gl_of g hg) (g.blt _ hb) (pa_cons (ha X C g) pa_nil (star_cons hst [] _)) (star_cons hst [] _)).run pins s σ H R I ?_⟩
  obtain ⟨μ, ρ, S, he, hs, h⟩ := h
  have h0 : evE C (.lit (.int 0)) ρ S = Res.ok (D.int 0) S := by rw [evE]
  unfold evI at h
  rw [h0] at h
  refine ⟨μ, ρ, S, he, hs, Po.imp (Po.bind (r := evE C ca ρ S) h) fun y S1 μ1 H1 _ e1 s1 h1 v rv => ?_⟩
  cases y with
  | int j =>
    obtain ⟨z, h1⟩ := Po.ask (show Po X.K μ1 H1 (ask (bd62 0 ∧ bd62 j) (Res.ok (⟨rgD 0 j, none⟩ : Itv) S1)) _ from h1)
    refine ⟨j, by rw [show v = V.int j from rv], z.2.1, z.2.2, ?_⟩
    have k := h1.at s1 (Itr 0 (j - 0).toNat) fun μ H S _ _ _ => itr_ok 0 j
    rw [Int.sub_zero] at k
    exact k
  | _ => exact (show False from h1).elim
theorem si_rg2 {pos2 : Pos} (hb : ("range" : Str) ∈ p.B) (hg : p.sc.names.lookup ("range" : Str) = some .globalImplicit) (hst : notStar a = true) (hst2 : notStar b = true) (ha : SdE p a ca) (hb' : SdE p b cb) : SdI p tg (.Call (.Name "range" q) [a, b] [] pos) (.rg ca cb) := fun X C g => by
  refine ⟨fun pins s σ H R I h => (pi_range2 (gl_of g hg) (g.blt _ hb) (pa_cons (ha X C g) (pa_cons (hb' X C g) pa_nil (star_cons hst2 [] _)) (star_cons hst [b] _)) (by rw [star_cons hst, star_cons hst2]; rfl) (star_cons hst2 [] _)).run pins s σ H R I ?_⟩
  obtain ⟨μ, ρ, S, he, hs, h⟩ := h
  unfold evI at h
  refine ⟨μ, ρ, S, he, hs, h.bind.imp fun x S1 μ1 H1 _ e1 s1 h1 v rv => ?_⟩
  refine ⟨μ1, ρ, S1, he.mono e1, s1, h1.bind.imp fun y S2 μ2 H2 _ e2 s2 h2 u ru => ?_⟩
  cases x with
  | int i =>
    cases y with
    | int j =>
      obtain ⟨z, h2⟩ := Po.ask (show Po X.K μ2 H2 (ask (bd62 i ∧ bd62 j) (Res.ok (⟨rgD i j, none⟩ : Itv) S2)) _ from h2)
      exact ⟨i, j, by rw [show v = V.int i from rv, show u = V.int j from ru], ⟨z.1.1, z.1.2, z.2.1, z.2.2⟩, h2.at s2 _ fun μ H S _ _ _ => itr_ok i j⟩
    | _ => exact (show False from h2).elim
  | _ => exact (show False from h2).elim
end
end PQ

/-! Targets, comprehensions. -/
namespace PQ
open PySem PySem.Spec PyProof.Rows L2
/-! ### targets -/
/-- σ' is σ with some of the slots `is` stored -/
inductive SetsIn (is : List Nat) : Slots → Slots → Prop
  | refl (σ : Slots) : SetsIn is σ σ
  | step {σ σ' : Slots} {i : Nat} {v : V} : i ∈ is → SetsIn is (σ.set i (some v)) σ' → SetsIn is σ σ'
theorem SetsIn.mono {is js : List Nat} (h : ∀ i, i ∈ is → i ∈ js) : ∀ {σ σ' : Slots}, SetsIn is σ σ' → SetsIn js σ σ'
  | _, _, .refl σ => .refl σ
  | _, _, .step m t => .step (h _ m) (SetsIn.mono h t)
theorem wipe_set {i : Nat} {o : Option V} : ∀ {vs : List Nat} {σ : Slots}, i ∈ vs → L2.wipe (σ.set i o) vs = L2.wipe σ vs
  | v :: vs, σ, h => by
    unfold L2.wipe
    by_cases hv : i ∈ vs
    · rw [wipe_set hv]
    · have e : i = v := by
        rcases List.mem_cons.mp h with e | h
        · exact e
        · exact absurd h hv
      subst e
      -- i is stored last, whatever stood there
      have key : ∀ (ws : List Nat) (σ : Slots), L2.wipe (σ.set i o) ws = (L2.wipe σ ws).set i (if i ∈ ws then none else o) ∨ (L2.wipe (σ.set i o) ws).set i none = (L2.wipe σ ws).set i none := by
        intro ws
        induction ws with
        | nil => intro σ; right; unfold L2.wipe; rw [List.set_set]
        | cons w ws ih =>
          intro σ
          right
          unfold L2.wipe
          have ih' : (L2.wipe (σ.set i o) ws).set i none = (L2.wipe σ ws).set i none := by
            rcases ih σ with h | h
            · rw [h, List.set_set]
            · exact h
          by_cases hw : w = i
          · subst hw; rw [List.set_set, List.set_set]; exact ih'
          · rw [List.set_comm _ _ hw, List.set_comm _ _ hw, ih']
      rcases key vs σ with h | h
      · rw [h, List.set_set]
      · exact h
theorem SetsIn.wipe {is : List Nat} : ∀ {σ σ' : Slots}, SetsIn is σ σ' → L2.wipe σ' is = L2.wipe σ is
  | _, _, .refl _ => rfl
  | _, _, .step m t => by rw [SetsIn.wipe t, wipe_set m]
theorem wipe_wipe : ∀ (vs : List Nat) (σ : Slots), (∀ us : List Nat, (∀ u, u ∈ vs → u ∈ us) → L2.wipe (L2.wipe σ vs) us = L2.wipe σ us)
  | [], σ, us, _ => rfl
  | v :: vs, σ, us, h => by
    show L2.wipe ((L2.wipe σ vs).set v none) us = _
    rw [wipe_set (h v List.mem_cons_self)]
    exact wipe_wipe vs σ us fun u hu => h u (List.mem_cons_of_mem _ hu)
def CN.slots : CN → List Nat
  | .nm i => [i]
  | .tup is => is
/-- a target takes a value -/
def tN (K : Fg) (g : CN) : TG := fun v σ H Q => ∃ μ ρ S d ρ', EnvOk K μ H ρ σ ∧ StOk K μ H S ∧ Rp K μ H d v ∧ bindN g d ρ S = some ρ' ∧ ∀ σ', EnvOk K μ H ρ' σ' → SetsIn g.slots σ σ' → Q σ' H
def SdN (p : Pl) (tg : Expr) (g : CN) : Prop := ∀ X C, Good X p C → X.fn = (fun _ => true) ∨ (∀ i ∈ g.slots, ∀ x, p.N[i]? = some x → p.sc.names.lookup x = some .local ∨ X.fn x = true) → PG X tg (tN X.K g)
end PQ
namespace L2
open PySem PySem.Spec PyProof.Rows
theorem PG.pq {X : Cx} {e : Expr} {t t' : TG} (h : PG X e t) (q : ∀ v σ H Q, t' v σ H Q → t v σ H Q) : PG X e t' := ⟨fun pins s σ H v u Q I r hw => h.run pins s σ H v u Q I r (q v σ H Q hw)⟩
theorem PGs.pq {X : Cx} {e : List Expr} {t t' : TGs} (h : PGs X e t) (q : ∀ v σ H Q, t' v σ H Q → t v σ H Q) : PGs X e t' := ⟨fun pins s σ H v u Q I r hw => h.run pins s σ H v u Q I r (q v σ H Q hw)⟩
theorem PS.pq {X : Cx} {e : Stmt} {t t' : TS} (h : PS X e t) (q : ∀ D σ H, t' D σ H → t D σ H) : PS X e t' := ⟨fun pins s σ H D I hw => h.run pins s σ H D I (q D σ H hw)⟩
theorem PSs.pq {X : Cx} {e : List Stmt} {t t' : TS} (h : PSs X e t) (q : ∀ D σ H, t' D σ H → t D σ H) : PSs X e t' := ⟨fun pins s σ H D I hw => h.run pins s σ H D I (q D σ H hw)⟩
/-- an unpacked tuple or list -/
theorem pg_or {X : Cx} {e : Expr} {t u : TG} (h : PG X e t) (h' : PG X e u) : PG X e (fun v σ H Q => t v σ H Q ∨ u v σ H Q) :=
  ⟨fun pins s σ H v w Q I r hw => hw.elim (h.run pins s σ H v w Q I r) (h'.run pins s σ H v w Q I r)⟩
end L2
namespace PQ
open PySem PySem.Spec PyProof.Rows L2
section
variable {p : Pl} {pos q : Pos}
/-- a name's place, where it can be stored -/
def NameAt (p : Pl) (x : Str) (i : Nat) : Prop := p.N[i]? = some x ∧ Loc p.sc x
theorem sn_nm {x : Str} {i : Nat} (h : NameAt p x i) : SdN p (.Name x pos) (.nm i) := fun X C g hf => by
  have hl : X.fn x = true ∨ X.env.scope.names.lookup x = some .local := by
    rcases hf with hf | hf
    · rw [hf]; exact .inl rfl
    · rw [g.sc]; exact (hf i (List.mem_singleton.mpr rfl) x h.1).symm
  refine (pg_name (i := i) g.nd (by rw [g.N]; exact h.1) (by rw [g.sc]; exact h.2) hl).pq fun v σ H Q ⟨μ, ρ, S, d, ρ', he, hs, r, e, k⟩ => ?_
  cases e
  exact k _ (he.set r i) (.step (List.mem_singleton.mpr rfl) (.refl _))
inductive NamesAt (p : Pl) : List Expr → List Nat → Prop
  | nil : NamesAt p [] []
  | cons {x : Str} {i : Nat} {q : Pos} {es : List Expr} {is : List Nat} : NameAt p x i → NamesAt p es is → NamesAt p (.Name x q :: es) (i :: is)
def tNs (K : Fg) (is : List Nat) : TGs := fun vs σ H Q => ∃ μ ρ ds ρ', EnvOk K μ H ρ σ ∧ RpA K μ H ds vs ∧ setAll is ds ρ = some ρ' ∧ ∀ σ', EnvOk K μ H ρ' σ' → SetsIn is σ σ' → Q σ' H
theorem sn_all {es : List Expr} {is : List Nat} (h : NamesAt p es is) {X : Cx} {C : Orc} (g : Good X p C) (hf : X.fn = (fun _ => true) ∨ (∀ i ∈ is, ∀ x, p.N[i]? = some x → p.sc.names.lookup x = some .local ∨ X.fn x = true)) : PGs X es (tNs X.K is) := by
  induction h with
  | nil =>
    refine pgs_nil.pq fun vs σ H Q ⟨μ, ρ, ds, ρ', he, r, e, k⟩ => ?_
    cases ds with
    | nil => cases e; exact ⟨r, k _ he (.refl _)⟩
    | cons d ds => cases e
  | @cons x i q es is hx _ ih =>
    have hl : X.fn x = true ∨ X.env.scope.names.lookup x = some .local := by
      rcases hf with hf | hf
      · rw [hf]; exact .inl rfl
      · rw [g.sc]; exact (hf i List.mem_cons_self x hx.1).symm
    have ih := ih (hf.imp id fun hf j hj => hf j (List.mem_cons_of_mem _ hj))
    refine (pgs_cons (pg_name (i := i) g.nd (by rw [g.N]; exact hx.1) (by rw [g.sc]; exact hx.2) hl) ih rfl).pq fun vs σ H Q ⟨μ, ρ, ds, ρ', he, r, e, k⟩ => ?_
    cases ds with
    | nil => cases e
    | cons d ds =>
      obtain ⟨v, r', e1, h1, h2⟩ := r
      subst e1
      exact ⟨v, r', rfl, μ, ρ.set i (some d), ds, ρ', he.set h1 i, h2, e, fun σ' he' hs' => k σ' he' (.step List.mem_cons_self (hs'.mono fun j hj => List.mem_cons_of_mem _ hj))⟩
theorem setAll_len : ∀ {is : List Nat} {ds : List D} {ρ ρ' : En}, setAll is ds ρ = some ρ' → ds.length = is.length
  | [], [], _, _, _ => rfl
  | [], _ :: _, _, _, h => by cases h
  | _ :: _, [], _, _, h => by cases h
  | i :: is, d :: ds, ρ, ρ', h => by
    have h : setAll is ds (ρ.set i (some d)) = some ρ' := h
    rw [List.length_cons, List.length_cons, setAll_len h]
theorem names_each {es : List Expr} {is : List Nat} (h : NamesAt p es is) (env : Env) : (assignEach es env).length = is.length ∧ (assignEach es env).findIdx? (·.1) = none := by
  induction h with
  | nil => exact ⟨rfl, rfl⟩
  | @cons x i q es is hx _ ih =>
    have e : assignEach (.Name x q :: es) env = (false, assign (.Name x q) env) :: assignEach es env := rfl
    rw [e]
    refine ⟨by rw [List.length_cons, List.length_cons, ih.1], ?_⟩
    rw [List.findIdx?_cons]
    show (if (false : Bool) = true then some 0 else Option.map (fun i => i + 1) (List.findIdx? (fun x => x.1) (assignEach es env))) = none
    rw [if_neg Bool.false_ne_true, ih.2]
    rfl
theorem sn_tup {es : List Expr} {is : List Nat} {k : Nat} (h : NamesAt p es is) : SdN p (.Tuple es k pos) (.tup is) := fun X C g hf => by
  have hs := sn_all h g hf
  obtain ⟨n1, n2⟩ := names_each h X.env
  refine (pg_or (pg_tup (n := is.length) g.calm hs n1 n2) (pg_unl (n := is.length) g.calm hs n1 n2)).pq fun v σ H Q ⟨μ, ρ, S, d, ρ', he, hs, r, e, k⟩ => ?_
  have e : (sqOf S (.val d)).bind (fun ds => setAll is ds ρ) = some ρ' := e
  cases es : sqOf S (.val d) with
  | none => rw [es] at e; cases e
  | some ds =>
    rw [es] at e
    have e : setAll is ds ρ = some ρ' := e
    obtain ⟨a, vs, rfl, h1, h2, _⟩ := sq_rv (r := .val d) hs r es
    have hl : vs.length = is.length := h2.length.symm.trans (setAll_len e)
    rcases h1 with h1 | ⟨h1, _⟩
    · exact .inr ⟨a, vs, rfl, h1, hl, μ, ρ, ds, ρ', he, h2, e, k⟩
    · exact .inl ⟨a, vs, rfl, h1, hl, μ, ρ, ds, ρ', he, h2, e, k⟩
end

/-! ### comprehensions -/
theorem Good.blk {X : Cx} {p : Pl} {C : Orc} (g : Good X p C) (s : Shared) (H : Hp) (scope : Scope) (cl : List (Str × Addr)) (c : Addr) (fp : List Addr) : Good (X.blk s H scope (compEnvC scope cl c X.env) fp) { p with sc := relS scope p.sc } C :=
  ⟨g.calm, g.nd, g.un, PassesOwn.never, g.N, by show relS scope X.env.scope = _; rw [g.sc], g.blt, g.glb, g.fn⟩
section
variable {K : Fg} {μ μ' μ1 : List Addr} {H H' H1 : Hp} {S : Sto}
/-- one's own list is changed -/
theorem own_le {D : Addr} {vs us : List V} (h : H D = some (.lst vs)) : Le K μ H μ (upd H D (.lst us)) := by
  refine ⟨fun _ _ h => h, fun a xs q => ?_, fun a xs q => ?_⟩
  · rcases q with (q | ⟨o, q⟩) | q
    · exact .inl (.inl (by rw [upd_ne (ne_of q h (by intro z; cases z))]; exact q))
    · exact .inl (.inr ⟨o, by rw [upd_ne (ne_of q h (by intro z; cases z))]; exact q⟩)
    · exact .inr q
  · rcases q with ⟨o, q⟩ | q
    · exact .inl ⟨o, by rw [upd_ne (ne_of q h (by intro z; cases z))]; exact q⟩
    · exact .inr q
theorem own_ext {D : Addr} {o : HO} (e : Ext K μ1 H1 μ H) (h : H1 D = none) (q : Le K μ H μ (upd H D o)) : Ext K μ1 H1 μ (upd H D o) := by
  refine ⟨e.pre, fun a z => ?_, fun a u z m => ?_, fun a xs z => q.tup _ _ (e.tup _ _ z), fun a xs z => q.fix _ _ (e.fix _ _ z)⟩
  · by_cases ha : a = D
    · rw [ha]; exact h
    · rw [upd_ne ha] at z; exact e.alive a z
  · rw [upd_ne (ne_of_none z h)]
    exact e.fr a u z m
theorem own_st {D : Addr} {vs us : List V} (hs : StOk K μ H S) (h : H D = some (.lst vs)) (n : D ∉ μ) : StOk K μ (upd H D (.lst us)) S :=
  ⟨hs.len, hs.nd, fun i o a e1 e2 => (hs.ob i o a e1 e2).le (own_le h) (upd_ne fun z => n (by rw [← z]; exact List.mem_of_getElem? e2))⟩
end
theorem Po.map {α β : Type} {K : Fg} {μ : List Addr} {H : Hp} {r : Res α} {g : α → β} {P : β → Sto → List Addr → Hp → Prop} (h : Po K μ H (r.bind fun a S' => .ok (g a) S') P) : Po K μ H r fun a S' μ' H' => P (g a) S' μ' H' := by
  cases r with
  | ok a S' => exact h
  | exc c fs S' => exact h
  | bad => exact h
theorem loopQ_len {C : Sto → Prop} {f : D → Sto → Res (Option D)} : ∀ {ds : List D} {S : Sto} {r : List D} {S' : Sto}, loopQ C f ds S = .ok r S' → r.length ≤ ds.length
  | [], S, r, S', h => by
    unfold loopQ PQ.ask at h
    split at h
    · cases h; exact Nat.le_refl _
    · cases h
  | d :: ds, S, r, S', h => by
    unfold loopQ PQ.ask at h
    split at h
    · obtain ⟨o, S1, _, h⟩ := bind_ok h
      obtain ⟨r', S2, e2, h⟩ := bind_ok h
      have := loopQ_len e2
      cases h
      cases o with
      | none => exact Nat.le_succ_of_le this
      | some x => exact Nat.succ_le_succ this
    · cases h
/-- a comprehension's loop; tt, te: its test, its element, by what they say -/
theorem comp_imp {K : Fg} {own : List Nat} {g : CN} {fi : En → Sto → Res Itv} {tt : TT} {te : TE} {body : En → Sto → Res (Option D)} {σ : Slots} {H : Hp} {Q : VK}
    (hsub : ∀ i, i ∈ g.slots → i ∈ own)
    (hb : ∀ (σ2 : Slots) (H2 : Hp) (μ : List Addr) (ρ : En) (S : Sto) (Dn : Addr) (acc : List V) (R : V → Hp → Prop) (R0 : Hp → Prop), EnvOk K μ H2 ρ σ2 → StOk K μ H2 S →
      Po K μ H2 (body ρ S) (fun o _ μ' H' => match o with | none => R0 H' | some x => ∀ v, Rp K μ' H' x v → R v H') → tt σ2 H2 fun b H3 => if b = true then te σ2 H3 R else R0 H3)
    (h : tQ K (fun ρ S => (fi ρ S).bind fun t S1 => ask (t.items.length ≤ sizeLine) (loopQ t.still (fun d S2 => may (bindN g d (wipeE ρ own) S2) fun ρ' => body ρ' S2) t.items S1)) σ H Q) :
    tLc (tI K fi) (tN K g) tt te own σ H Q := by
  obtain ⟨μ, ρ, S, he, hs, h⟩ := h
  refine ⟨μ, ρ, S, he, hs, h.bind.imp fun t S1 μ1 H1 _ e1 s1 h1 J hJ => ?_⟩
  obtain ⟨hz, h1⟩ := h1.ask
  intro Dn hD
  have hD0 : H Dn = none := e1.alive _ hD
  generalize hf : (fun d S2 => may (bindN g d (wipeE ρ own) S2) fun ρ' => body ρ' S2) = f at h1
  -- what is wanted of the whole list
  let P : List D → List Addr → Hp → Prop := fun ds μ' H' => ∀ a vs, H1 a = none → H' a = some (.lst vs) → a ∉ μ' → RpA K μ' H' ds vs → ds.length ≤ sizeLine → Q (.ref a) H'
  have h1 : Po K μ1 H1 (loopQ t.still f t.items S1) (fun ds _ μ' H' => P ds μ' H') := h1.imp fun ds S' μ' H' _ _ _ k a vs hn => k a vs (e1.alive _ hn)
  refine ⟨fun i m H => m = t.items.length - i ∧ i ≤ t.items.length ∧ ∃ μ S acc ds, Ext K μ1 H1 μ H ∧ StOk K μ H S ∧ H Dn = some (.lst acc) ∧ Dn ∉ μ ∧ RpA K μ H ds acc ∧ ds.length ≤ i ∧ Po K μ1 H1 (loopQ t.still f (t.items.drop i) S) (fun r _ μ' H' => P (ds ++ r) μ' H'),
    ⟨t.items.length, rfl, Nat.zero_le _, μ1, S1, [], [], s1.fresh hD _, s1.freshOk hD _, upd_same, (own_new (ds := []) (vs := []) s1 rfl hD).1, rfl, Nat.le_refl _, h1⟩, ?_⟩
  rintro i m H2 ⟨rfl, hi, μ2, S2, acc, ds, x2, s2, d2, n2, r2, l2, h2⟩
  by_cases hlt : i < t.items.length
  · -- a turn
    rw [List.drop_eq_getElem_cons hlt] at h2
    unfold loopQ at h2
    obtain ⟨hst, h2⟩ := h2.ask
    obtain ⟨hgo, _⟩ := hJ μ2 H2 S2 x2 s2 hst
    obtain ⟨hgo, hy⟩ := hgo i hlt
    refine .inr ⟨hgo, fun H3 => ∃ μ S acc ds, Ext K μ1 H1 μ H3 ∧ StOk K μ H3 S ∧ H3 Dn = some (.lst acc) ∧ Dn ∉ μ ∧ RpA K μ H3 ds acc ∧ ds.length ≤ i + 1 ∧ Po K μ1 H1 (loopQ t.still f (t.items.drop (i + 1)) S) (fun r _ μ' H' => P (ds ++ r) μ' H'),
      fun H3 q => ⟨t.items.length - (i + 1), by omega, rfl, hlt, q⟩, fun v H3 y => ?_⟩
    obtain ⟨rfl, d, ed, rd⟩ := hy v H3 y
    have ed' : t.items[i] = d := by
      rw [List.getElem?_eq_getElem hlt] at ed
      exact Option.some.inj ed
    rw [ed'] at h2
    -- the target
    cases hfd : f d S2 with
    | exc c fs S' => rw [hfd] at h2; exact h2.elim
    | bad => rw [hfd] at h2; exact h2.elim
    | ok o S3 =>
      rw [hfd] at h2
      have hfd' : may (bindN g d (wipeE ρ own) S2) (fun ρ' => body ρ' S2) = .ok o S3 := by rw [← hfd, ← hf]
      obtain ⟨ρ', eb, hbody⟩ := may_ok hfd'
      refine ⟨μ2, wipeE ρ own, S2, d, ρ', (he.mono (e1.trans x2)).wipe own, s2, rd, eb, fun σ' he' hin => ⟨?_, ?_⟩⟩
      · rw [(hin.mono hsub).wipe]
        exact wipe_wipe own σ own fun _ h => h
      · refine hb σ' H3 μ2 ρ' S2 Dn acc _ _ he' s2 ?_
        rw [hbody]
        intro μ4 H4 x4 s4
        have dn4 : H4 Dn = some (.lst acc) := x4.fr _ _ d2 n2
        have nn4 : Dn ∉ μ4 := x4.notin d2 n2
        have x14 : Ext K μ1 H1 μ4 H4 := x2.trans x4
        cases o with
        | none =>
          exact ⟨μ4, S3, acc, ds, x14, s4, dn4, nn4, r2.mono x4, Nat.le_succ_of_le l2, Po.map (g := fun r => r) h2⟩
        | some z =>
          intro w rw_
          refine ⟨acc, dn4, ?_, μ4, S3, acc ++ [w], ds ++ [z], own_ext x14 hD (own_le dn4), own_st s4 dn4 nn4, upd_same, nn4, ?_, ?_, ?_⟩
          · rw [← r2.length]; omega
          · exact RpA.le (own_le dn4) _ _ ((r2.mono x4).append (.cons rw_ .nil))
          · rw [List.length_append]; exact Nat.succ_le_succ l2
          · refine (Po.map (g := fun r => z :: r) h2).imp fun r S' μ' H' _ _ _ k => ?_
            rw [List.append_assoc]
            exact k
  · -- the end
    have e : i = t.items.length := by omega
    subst e
    rw [List.drop_length] at h2
    unfold loopQ at h2
    obtain ⟨hst, h2⟩ := h2.ask
    obtain ⟨_, hstop⟩ := hJ μ2 H2 S2 x2 s2 hst
    refine .inl ⟨hstop, ?_⟩
    have k : P (ds ++ []) μ2 H2 := h2 μ2 H2 x2 s2
    rw [List.append_nil] at k
    exact k Dn acc hD d2 n2 r2 (Nat.le_trans l2 hz)
section
variable {p : Pl} {elt tg iter c : Expr} {ci : CI} {ce : CE} {ct : CT} {g : CN} {scope : Scope} {own : List (Str × Nat)} {pos : Pos}
/-- the scope within -/
def Pl.within (p : Pl) (scope : Scope) : Pl := { p with sc := relS scope p.sc }
/-- a block's target: its names are stored there -/
def storeB (p : Pl) (scope : Scope) (g : CN) : Bool := g.slots.all fun i => match p.N[i]? with
  | some x => (relS scope p.sc).names.lookup x == some .local || scope.names.lookup x == some .cell
  | none => true
def inOwn (own : List (Str × Nat)) (g : CN) : Bool := g.slots.all fun i => (own.map (·.2)).contains i
theorem storeB_ok {X : Cx} {s : Shared} {H : Hp} {cl : List (Str × Addr)} {a : Addr} {fp : List Addr} (h : storeB p scope g = true) : ∀ i ∈ g.slots, ∀ x, (p.within scope).N[i]? = some x → (p.within scope).sc.names.lookup x = some .local ∨ (X.blk s H scope (compEnvC scope cl a X.env) fp).fn x = true := fun i hi x hx => by
  have h1 := List.all_eq_true.mp h i hi
  have hx : p.N[i]? = some x := hx
  rw [hx] at h1
  have h1 : ((relS scope p.sc).names.lookup x == some .local || scope.names.lookup x == some .cell) = true := h1
  rw [Bool.or_eq_true] at h1
  exact h1.imp (fun z => eq_of_beq z) fun z => z
theorem inOwn_ok (h : inOwn own g = true) : ∀ i, i ∈ g.slots → i ∈ own.map (·.2) := fun i hi => by
  have := List.all_eq_true.mp h i hi
  simpa using this
theorem comp_lc (hi : SdI p tg iter ci) (hg : SdN (p.within scope) tg g) (he : SdE (p.within scope) elt ce) (ho : inOwn own g = true) (K : Fg) (C : Orc) {σ : Slots} {H : Hp} {Q : VK} (h : tQ K (evQ C (.comp (own.map (·.2)) g ci ce)) σ H Q) : tLc (tI K (evI C ci)) (tN K g) tYes (tE K (evE C ce)) (own.map (·.2)) σ H Q := by
  refine comp_imp (body := fun ρ' S2 => (evE C ce ρ' S2).bind fun x S3 => .ok (some x) S3) (inOwn_ok ho) (fun σ2 H2 μ ρ S Dn acc R R0 he hs h => ?_) (by
    obtain ⟨μ, ρ, S, he, hs, h⟩ := h
    unfold evQ at h
    exact ⟨μ, ρ, S, he, hs, h⟩)
  show if true = true then tE K (evE C ce) σ2 H2 R else R0 H2
  rw [if_pos rfl]
  exact ⟨μ, ρ, S, he, hs, Po.map (g := some) h⟩
theorem compIf_lc (hi : SdI p tg iter ci) (hg : SdN (p.within scope) tg g) (he : SdE (p.within scope) elt ce) (ho : inOwn own g = true) (K : Fg) (C : Orc) {σ : Slots} {H : Hp} {Q : VK} (h : tQ K (evQ C (.compIf (own.map (·.2)) g ci ct ce)) σ H Q) : tLc (tI K (evI C ci)) (tN K g) (tT K (evT C ct)) (tE K (evE C ce)) (own.map (·.2)) σ H Q := by
  refine comp_imp (body := fun ρ' S2 => (evT C ct ρ' S2).bind fun k S3 => if k = true then (evE C ce ρ' S3).bind fun x S4 => .ok (some x) S4 else .ok none S3) (inOwn_ok ho) (fun σ2 H2 μ ρ S Dn acc R R0 he hs h => ?_) (by
    obtain ⟨μ, ρ, S, he, hs, h⟩ := h
    unfold evQ at h
    exact ⟨μ, ρ, S, he, hs, h⟩)
  refine ⟨μ, ρ, S, he, hs, h.bind.imp fun k S1 μ1 H1 _ e1 s1 h1 => ?_⟩
  cases k with
  | true =>
    rw [if_pos rfl] at h1 ⊢
    exact ⟨μ1, ρ, S1, he.mono e1, s1, Po.map (g := some) h1⟩
  | false =>
    rw [if_neg Bool.false_ne_true] at h1 ⊢
    exact h1.at s1
section
variable (hi : SdI p tg iter ci) (ok : blkC p.N p.sc scope own = true) (hg : SdN (p.within scope) tg g) (hsb : storeB p scope g = true) (ho : inOwn own g = true) (he : SdE (p.within scope) elt ce) (hs : notSet iter = true)
include hi ok hg hsb ho he hs
theorem sq_comp : SdQ p (.ListComp elt [⟨tg, iter, [], 0⟩] scope pos) (.comp (own.map (·.2)) g ci ce) := fun X C gd =>
  (pe_lc (own := own) gd.calm gd.nd (hi X C gd) (blkOk_by (by rw [gd.N, gd.sc]; exact ok)) (fun s H a cl fp => hg _ C (gd.blk s H scope cl a fp) (.inr (storeB_ok hsb))) (fun _ _ _ _ _ => pts_nil) (fun s H a cl fp => he _ C (gd.blk s H scope cl a fp)) (fun x => no_fold hs _ x)).pq fun σ H Q h => comp_lc hi hg he ho _ _ h
theorem sq_compIf (ht : SdT (p.within scope) c ct) : SdQ p (.ListComp elt [⟨tg, iter, [c], 0⟩] scope pos) (.compIf (own.map (·.2)) g ci ct ce) := fun X C gd =>
  (pe_lc (own := own) gd.calm gd.nd (hi X C gd) (blkOk_by (by rw [gd.N, gd.sc]; exact ok)) (fun s H a cl fp => hg _ C (gd.blk s H scope cl a fp) (.inr (storeB_ok hsb))) (fun s H a cl fp => pts_one (ht _ C (gd.blk s H scope cl a fp))) (fun s H a cl fp => he _ C (gd.blk s H scope cl a fp)) (fun x => no_fold hs _ x)).pq fun σ H Q h => compIf_lc hi hg he ho _ _ h
end
end
end PQ

/-! Statements. -/
namespace PQ
open PySem PySem.Spec PyProof.Rows L2
section
variable {K : Fg} {μ μ' μ1 : List Addr} {H H' H1 : Hp} {S : Sto} {σ : Slots} {ρ : En}
/-- what is wanted behind a flow -/
def flP (K : Fg) (D : Ends) (fl : Fl) (μ : List Addr) (H : Hp) : Prop := match fl with
  | .nx ρ => ∀ σ, EnvOk K μ H ρ σ → D.nx σ H
  | .bk ρ => ∀ σ, EnvOk K μ H ρ σ → D.bk σ H
  | .ct ρ => ∀ σ, EnvOk K μ H ρ σ → D.ct σ H
  | .rt d => ∀ v, Rp K μ H d v → D.rt v H
def tS (K : Fg) (f : En → Sto → Res Fl) : TS := fun D σ H => ∃ μ ρ S, EnvOk K μ H ρ σ ∧ StOk K μ H S ∧ Po K μ H (f ρ S) fun fl _ μ' H' => flP K D fl μ' H'
end
def SdS (p : Pl) (s : Stmt) (c : CS) : Prop := ∀ X C, Good X p C → X.fn = (fun _ => true) → PS X s (tS X.K (evS C c))
def SdSs (p : Pl) (s : List Stmt) (c : CSs) : Prop := ∀ X C, Good X p C → X.fn = (fun _ => true) → PSs X s (tS X.K (evSs C c))
section
variable {p : Pl} {a b e o i tg iter : Expr} {ca cb co ci ce : CE} {ct : CT} {ii : CI} {g : CN} {pos : Pos} {s : Stmt} {ss ts : List Stmt} {cs : CS} {css cts : CSs}
theorem ss_nil : SdSs p [] .nil := fun X C gd _ => pss_nil.pq fun D σ H ⟨μ, ρ, S, he, hs, h⟩ => by
  unfold evSs at h
  exact h.at hs σ he
theorem ss_cons (h1 : SdS p s cs) (h2 : SdSs p ss css) : SdSs p (s :: ss) (.cons cs css) := fun X C gd hf => (pss_cons (h1 X C gd hf) (h2 X C gd hf)).pq fun D σ H ⟨μ, ρ, S, he, hs, h⟩ => by
  unfold evSs at h
  refine ⟨μ, ρ, S, he, hs, h.bind.imp fun fl S1 μ1 H1 _ e1 s1 h1 => ?_⟩
  cases fl with
  | nx ρ1 => exact fun σ1 he1 => ⟨μ1, ρ1, S1, he1, s1, h1⟩
  | bk ρ1 => exact h1.at s1
  | ct ρ1 => exact h1.at s1
  | rt d => exact h1.at s1
theorem s_pass : SdS p (.Pass pos) .pass := fun X C gd _ => ps_pass.pq fun D σ H ⟨μ, ρ, S, he, hs, h⟩ => by
  unfold evS at h
  exact h.at hs σ he
theorem s_brk : SdS p (.Break pos) .brk := fun X C gd _ => ps_break.pq fun D σ H ⟨μ, ρ, S, he, hs, h⟩ => by
  unfold evS at h
  exact h.at hs σ he
theorem s_cont : SdS p (.Continue pos) .cont := fun X C gd _ => ps_continue.pq fun D σ H ⟨μ, ρ, S, he, hs, h⟩ => by
  unfold evS at h
  exact h.at hs σ he
theorem s_ret (ha : SdE p a ca) : SdS p (.Return (some a) pos) (.ret ca) := fun X C gd _ => (ps_ret (ha X C gd)).pq fun D σ H ⟨μ, ρ, S, he, hs, h⟩ => by
  unfold evS at h
  exact ⟨μ, ρ, S, he, hs, h.bind.imp fun d S1 μ1 H1 _ e1 s1 h1 v rv => h1.at s1 v rv⟩
theorem s_ex (hn : notComp a = true) (ha : SdE p a ca) : SdS p (.Expr a pos) (.ex ca) := fun X C gd _ => (ps_expr (ha X C gd) (no_swap hn _ _ _)).pq fun D σ H ⟨μ, ρ, S, he, hs, h⟩ => by
  unfold evS at h
  exact ⟨μ, ρ, S, he, hs, h.bind.imp fun d S1 μ1 H1 _ e1 s1 h1 v rv => h1.at s1 σ (he.mono e1)⟩
theorem s_if (ht : SdT p a ct) (h1 : SdSs p ss css) (h2 : SdSs p ts cts) : SdS p (.If a ss ts pos) (.ite ct css cts) := fun X C gd hf => (ps_if (ht X C gd) (h1 X C gd hf) (h2 X C gd hf)).pq fun D σ H ⟨μ, ρ, S, he, hs, h⟩ => by
  unfold evS at h
  refine ⟨μ, ρ, S, he, hs, h.bind.imp fun k S1 μ1 H1 _ e1 s1 h1 => ?_⟩
  cases k with
  | true => rw [if_pos rfl] at h1 ⊢; exact ⟨μ1, ρ, S1, he.mono e1, s1, h1⟩
  | false => rw [if_neg Bool.false_ne_true] at h1 ⊢; exact ⟨μ1, ρ, S1, he.mono e1, s1, h1⟩
/-- x = e -/
theorem asg_imp {K : Fg} {fe : En → Sto → Res D} {D : Ends} {σ : Slots} {H : Hp} (h : tS K (fun ρ S => (fe ρ S).bind fun d S1 => may (bindN g d ρ S1) fun ρ' => .ok (.nx ρ') S1) D σ H) : tAsg (tE K fe) (tN K g) D σ H := by
  obtain ⟨μ, ρ, S, he, hs, h⟩ := h
  refine ⟨μ, ρ, S, he, hs, h.bind.imp fun d S1 μ1 H1 _ e1 s1 h1 v rv => ?_⟩
  obtain ⟨ρ', eb, h1⟩ := h1.may
  exact ⟨μ1, ρ, S1, d, ρ', he.mono e1, s1, rv, eb, fun σ' he' _ => h1.at s1 σ' he'⟩
theorem s_set (hn : notComp a = true) (hg : SdN p tg g) (ha : SdE p a ca) (hw : ∀ env : Env, env.scope = p.sc → swappedStores [tg] a env = pure none) (h1 : ∀ env, (assignEach [tg] env).map (·.2) = [assign tg env]) : SdS p (.Assign [tg] a pos) (.set g ca) := fun X C gd hf =>
  (ps_asg (ha X C gd) (hg X C gd (.inl hf)) (no_swap hn _ _ _) (hw _ gd.sc) (h1 _)).pq fun D σ H h => asg_imp (by
    obtain ⟨μ, ρ, S, he, hs, h⟩ := h
    unfold evS at h
    exact ⟨μ, ρ, S, he, hs, h⟩)
theorem alloc_imp {K : Fg} {fq : En → Sto → Res (List D)} {σ : Slots} {H : Hp} {Q : VK} (h : tE K (fun ρ S => (fq ρ S).bind fun ds S1 => .ok (.ref S1.length) (S1 ++ [.lst ds])) σ H Q) : tQ K fq σ H Q := by
  obtain ⟨μ, ρ, S, he, hs, h⟩ := h
  refine ⟨μ, ρ, S, he, hs, ?_⟩
  have h : Po K μ H ((fq ρ S).bind fun ds S1 => Res.ok (D.ref S1.length) (S1 ++ [Ob.lst ds])) (fun d _ μ' H' => ∀ v, Rp K μ' H' d v → Q v H') := h
  generalize fq ρ S = r at h
  cases r with
  | ok ds S1 =>
    intro μ1 H1 e1 s1 a vs hn ha hm rvs hz
    refine h (μ1 ++ [a]) H1 (e1.take hn) (s1.take hm ha rvs hz) (.ref a) ⟨a, rfl, ?_⟩
    rw [← s1.len, List.getElem?_append_right (Nat.le_refl _), Nat.sub_self]
    rfl
  | exc c fs S' => exact h
  | bad => exact h
/-- x = [..], where the stores are swapped -/
def swapB (sc : Scope) (y : Str) (scope : Scope) (l1 l2 : Nat) : Bool := (match sc.kind with | .function => true | _ => false) && (sc.names.lookup y == some .local) && (l1 == l2) && !(scope.names.any fun (n, k) => n == y && (k == .local || k == .cell))
theorem sw_ok {env : Env} {elt : Expr} {gs : List Comprehension} {scope : Scope} {cpos py : Pos} {y : Str} {l : Nat} (h : swapB env.scope y scope py.line cpos.line = true) : swapsWith (.ListComp elt gs scope cpos) (some (.Name y py)) l env = pure true := by
  unfold swapB at h
  simp only [Bool.and_eq_true] at h
  obtain ⟨⟨⟨h1, h2⟩, h3⟩, h4⟩ := h
  refine sw_true ?_ (eq_of_beq h2) h3 (by simpa using h4)
  revert h1
  cases env.scope.kind <;> intro h1 <;> first | rfl | cases h1
section
variable {elt c : Expr} {y : Str} {py cpos : Pos} {iy : Nat} {scope : Scope} {own : List (Str × Nat)}
variable (hy : p.N[iy]? = some y) (hyl : p.sc.names.lookup y = some .local) (hsw : swapB p.sc y scope py.line cpos.line = true)
variable (hi : SdI p tg iter ii) (ok : blkC p.N p.sc scope own = true) (hg : SdN (p.within scope) tg g) (hsb : storeB p scope g = true) (ho : inOwn own g = true) (he : SdE (p.within scope) elt ce) (hs : notSet iter = true)
include hy hyl hsw hi ok hg hsb ho he hs
theorem s_setLc : SdS p (.Assign [.Name y py] (.ListComp elt [⟨tg, iter, [], 0⟩] scope cpos) pos) (.set (.nm iy) (.alloc (.comp (own.map (·.2)) g ii ce))) := fun X C gd hf =>
  (ps_setLc (own := own) (i := iy) gd.calm gd.nd (by rw [gd.N]; exact hy) (by rw [gd.sc]; exact hyl) (sw_ok (by rw [gd.sc]; exact hsw)) (hi X C gd) (blkOk_by (by rw [gd.N, gd.sc]; exact ok)) (fun s H a cl fp => hg _ C (gd.blk s H scope cl a fp) (.inr (storeB_ok hsb))) (fun _ _ _ _ _ => pts_nil) (fun s H a cl fp => he _ C (gd.blk s H scope cl a fp)) (fun x => no_fold hs _ x)).pq fun D σ H ⟨μ, ρ, S, he', hs', h⟩ => by
    show tLc _ _ _ _ _ σ H fun x H1 => gName iy x σ H1 D.nx
    refine comp_lc hi hg he ho _ C (alloc_imp ⟨μ, ρ, S, he', hs', ?_⟩)
    unfold evS at h
    refine Po.imp (P := fun d S1 μ1 H1 => Po X.K μ1 H1 (may (bindN (.nm iy) d ρ S1) fun ρ' => .ok (.nx ρ') S1) fun fl _ μ' H' => flP X.K D fl μ' H') ?_ fun d S1 μ1 H1 _ e1 s1 h1 v rv => ?_
    · have := h.bind
      unfold evE at this
      exact this
    · exact (h1.at (a := Fl.nx (ρ.set iy (some d))) s1) _ ((he'.mono e1).set rv iy)
theorem s_setLcIf (ht : SdT (p.within scope) c ct) : SdS p (.Assign [.Name y py] (.ListComp elt [⟨tg, iter, [c], 0⟩] scope cpos) pos) (.set (.nm iy) (.alloc (.compIf (own.map (·.2)) g ii ct ce))) := fun X C gd hf =>
  (ps_setLc (own := own) (i := iy) gd.calm gd.nd (by rw [gd.N]; exact hy) (by rw [gd.sc]; exact hyl) (sw_ok (by rw [gd.sc]; exact hsw)) (hi X C gd) (blkOk_by (by rw [gd.N, gd.sc]; exact ok)) (fun s H a cl fp => hg _ C (gd.blk s H scope cl a fp) (.inr (storeB_ok hsb))) (fun s H a cl fp => pts_one (ht _ C (gd.blk s H scope cl a fp))) (fun s H a cl fp => he _ C (gd.blk s H scope cl a fp)) (fun x => no_fold hs _ x)).pq fun D σ H ⟨μ, ρ, S, he', hs', h⟩ => by
    show tLc _ _ _ _ _ σ H fun x H1 => gName iy x σ H1 D.nx
    refine compIf_lc (ct := ct) hi hg he ho _ C (alloc_imp ⟨μ, ρ, S, he', hs', ?_⟩)
    unfold evS at h
    refine Po.imp (P := fun d S1 μ1 H1 => Po X.K μ1 H1 (may (bindN (.nm iy) d ρ S1) fun ρ' => .ok (.nx ρ') S1) fun fl _ μ' H' => flP X.K D fl μ' H') ?_ fun d S1 μ1 H1 _ e1 s1 h1 v rv => ?_
    · have := h.bind
      unfold evE at this
      exact this
    · exact (h1.at (a := Fl.nx (ρ.set iy (some d))) s1) _ ((he'.mono e1).set rv iy)
end
/-- a, b = x, y -/
theorem s_par {x y : Str} {px py pt : Pos} {kt k2 pt2} {j k : Nat} (hi : p.N[j]? = some x) (hj : p.N[k]? = some y) (hij : j ≠ k) (hx : p.sc.names.lookup x = some .local) (hy : p.sc.names.lookup y = some .local) (hs1 : notStar a = true) (hs2 : notStar b = true) (ha : SdE p a ca) (hb : SdE p b cb)
    (hw : ∀ env : Env, env.scope = p.sc → swappedStores [.Tuple [.Name x px, .Name y py] kt pt] (.Tuple [a, b] k2 pt2) env = pure (some [x, y])) :
    SdS p (.Assign [.Tuple [.Name x px, .Name y py] kt pt] (.Tuple [a, b] k2 pt2) pos) (.par j k ca cb) := fun X C gd hf =>
  (ps_par (i := j) (j := k) gd.calm gd.nd (by rw [gd.N]; exact hi) (by rw [gd.N]; exact hj) hij (by rw [gd.sc]; exact hx) (by rw [gd.sc]; exact hy) (pa_cons (ha X C gd) (pa_cons (hb X C gd) pa_nil (star_cons hs2 [] _)) (star_cons hs1 [b] _)) (hw _ gd.sc) rfl).pq fun D σ H ⟨μ, ρ, S, he, hs, h⟩ => by
    unfold evS at h
    refine ⟨μ, ρ, S, he, hs, h.bind.imp fun d S1 μ1 H1 _ e1 s1 h1 v rv => ?_⟩
    refine ⟨μ1, ρ, S1, he.mono e1, s1, h1.bind.imp fun d2 S2 μ2 H2 _ e2 s2 h2 w rw_ => ?_⟩
    exact ⟨v, w, rfl, h2.at s2 _ (((he.mono (e1.trans e2)).set (rv.mono e2) j).set rw_ k)⟩
/-- o[i] = e -/
theorem set_rp {K : Fg} {μ : List Addr} {H : Hp} {S : Sto} {x y d : D} {v u w : V} {Q : Hp → Prop} (hs : StOk K μ H S) (rx : Rp K μ H x v) (ry : Rp K μ H y u) (rd : Rp K μ H d w) (h : Po K μ H (setD x y d S) fun _ _ μ' H' => Ext K μ H μ' H' → Q H') : rSetL v u w H Q := by
  obtain ⟨n, ds, a, vs, rfl, rfl, ei, ea, k1, k2, k3, h⟩ := Po.withL hs rx h
  cases y with
  | int j =>
    obtain ⟨m, em, h⟩ := Po.may (show Po K μ H (may (ixN ds.length j) fun m => Res.ok () (S.set n (Ob.lst (ds.set m d)))) _ from h)
    obtain ⟨x1, x2⟩ := hs.put ea (k2.set rd m) (by rw [List.length_set]; exact k3)
    exact ⟨a, vs, j, m, rfl, ry, k1, by rw [← k2.length]; exact em, h _ _ x1 x2 x1⟩
  | _ => exact (show False from h).elim
theorem s_sub {sp : Pos} (hn : notSlice i = true) (hc : notComp e = true) (ho : SdE p o co) (hi : SdE p i ci) (he' : SdE p e ce) : SdS p (.Assign [.Subscript o i sp] e pos) (.sub co ci ce) := fun X C gd hf =>
  (ps_asg (he' X C gd) (pg_sub (ho X C gd) (hi X C gd) set_list (fun v => sub_store hn _ v)) (by rw [show swapsWithSole [.Subscript o i sp] e pos.line X.env = swapsWith e (some (.Subscript o i sp)) pos.line X.env from by unfold swapsWithSole; rfl]; exact no_swap hc _ _ _) (by cases e <;> rfl) rfl).pq fun D σ H ⟨μ, ρ, S, he, hs, h⟩ => by
    unfold evS at h
    refine ⟨μ, ρ, S, he, hs, h.bind.imp fun d S1 μ1 H1 _ e1 s1 h1 w rd => ?_⟩
    refine ⟨μ1, ρ, S1, he.mono e1, s1, h1.bind.imp fun x S2 μ2 H2 _ e2 s2 h2 v rx => ?_⟩
    refine ⟨μ2, ρ, S2, he.mono (e1.trans e2), s2, h2.bind.imp fun y S3 μ3 H3 _ e3 s3 h3 u ry => ?_⟩
    exact set_rp s3 (rx.mono e3) ry ((rd.mono e2).mono e3) (h3.bind.imp fun _ S4 μ4 H4 _ e4 s4 h4 _ => h4.at s4 σ ((he.mono (e1.trans (e2.trans e3))).mono e4))
/-- an operation in place, by values -/
def ipR : Bop → TIp
  | .add => fun x y H Q => rI0 (fun i j => .int (i + j)) x y H Q ∨ ∃ i j, x = .str i ∧ y = .str j ∧ i.length + j.length ≤ sizeLine ∧ Q (.str (i ++ j)) H
  | .sub => rI0 fun i j => .int (i - j)
  | _ => fun _ _ _ _ => False
def bopOp : Bop → Operator
  | .add => .Add | .sub => .Sub | .mul => .Mult | .fdiv => .FloorDiv | .mod => .Mod | .pow => .Pow | .shl => .LShift | .shr => .RShift | .band => .BitAnd | .bor => .BitOr | .bxor => .BitXor
theorem ip_ok (f : Bop) (X : Cx) : PIp X (bopOp f) (ipR f) := by
  cases f with
  | add => exact iop_add.or iop_add_str
  | sub => exact iop_sub
  | _ => exact fun _ _ _ _ _ _ _ _ _ _ _ _ h => h.elim
theorem aug_rp {f : Bop} {K : Fg} {μ : List Addr} {H : Hp} {S : Sto} {x y : D} {v u : V} {Q : VK} (hs : StOk K μ H S) (rx : Rp K μ H x v) (ry : Rp K μ H y u) (h : Po K μ H (augD f x y S) fun d _ μ' H' => ∀ v, Rp K μ' H' d v → Q v H') : ipR f v u H Q := by
  cases f with
  | add =>
    cases x with
    | int i => cases y with
      | int j => exact .inl ⟨i, j, rx, ry, Po.at (show Po K μ H (Res.ok (D.int (i + j)) S) _ from h) hs _ rfl⟩
      | _ => exact (show False from h).elim
    | str i => cases y with
      | str j =>
        obtain ⟨z, h⟩ := Po.ite (show Po K μ H (if i.length + j.length ≤ sizeLine then Res.ok (D.str (i ++ j)) S else Res.bad) _ from h)
        exact .inr ⟨i, j, rx, ry, z, Po.at h hs _ rfl⟩
      | _ => exact (show False from h).elim
    | _ => exact (show False from h).elim
  | sub =>
    cases x with
    | int i => cases y with
      | int j => exact ⟨i, j, rx, ry, Po.at (show Po K μ H (Res.ok (D.int (i - j)) S) _ from h) hs _ rfl⟩
      | _ => exact (show False from h).elim
    | _ => exact (show False from h).elim
  | _ => exact (show False from by cases x <;> cases y <;> exact h).elim
theorem s_aug {x : Str} {j : Nat} {f : Bop} {px : Pos} (hx : NameAt p x j) (ha : SdE p a ca) : SdS p (.AugAssign (.Name x px) (bopOp f) a pos) (.aug j f ca) := fun X C gd hf =>
  (ps_aug (i := j) gd.nd (by rw [gd.N]; exact hx.1) (by rw [gd.sc]; exact hx.2) (ha X C gd) (ip_ok f X) (.inl (by rw [hf]))).pq fun D σ H ⟨μ, ρ, S, he, hs, h⟩ => by
    unfold evS at h
    obtain ⟨d, ed, h⟩ := h.may
    have e2 : ρ[j]? = some (some d) := by
      cases q : ρ[j]? with
      | none => rw [q] at ed; cases ed
      | some o => rw [q] at ed; exact congrArg some ed
    obtain ⟨v, q1, q2⟩ := he.2 j d e2
    refine ⟨v, q1, μ, ρ, S, he, hs, h.bind.imp fun y S1 μ1 H1 _ e1 s1 h1 u ru => ?_⟩
    exact aug_rp s1 (q2.mono e1) ru (h1.bind.imp fun z S2 μ2 H2 _ e2 s2 h2 w rw_ => h2.at s2 _ (((he.mono e1).mono e2).set rw_ j))
/-- o[i] of a list, by values -/
theorem get_list {X : Cx} : PGet X (rIxL X.K) := by
  intro pins s σ H x y v u Q I rx ry h
  obtain ⟨p, xs, i, z, rfl, rfl, hq, he, q⟩ := h
  cases rx
  obtain ⟨t, rfl⟩ := ry
  obtain ⟨its, r, pl, hz⟩ := I.list hq
  obtain ⟨j, h1, h2, h3, h4, h5⟩ := atI_get he
  obtain ⟨w, ew, rw'⟩ := r.get h2
  have hl := r.length
  have hn := line63
  have fin : EP X pins σ Q w s := ⟨z, H, I, rw', q⟩
  by_cases h0 : 0 ≤ i
  · have hj : i.toNat = j := by
      rw [seqIndex_of h0 h5] at h1
      exact Option.some.inj h1
    exact wpAny_getItem_list pl.isList h0 (by omega) (by rw [hj]; simpa using ew) fin
  · have hj : (i + (its.toArray.size : Int)).toNat = j := by
      rw [seqIndex_neg (by omega) h4] at h1
      rw [List.size_toArray, ← hl]
      exact Option.some.inj h1
    exact wpAny_getItem_list_neg pl.isList (by omega) (by rw [List.size_toArray] <;> omega) (by omega) (by rw [hj]; simpa using ew) fin
theorem s_augS {f : Bop} {sp : Pos} (hn : notSlice i = true) (ho : SdE p o co) (hi : SdE p i ci) (he' : SdE p e ce) : SdS p (.AugAssign (.Subscript o i sp) (bopOp f) e pos) (.augS co ci f ce) := fun X C gd hf =>
  (ps_augS (ho X C gd) (hi X C gd) get_list (he' X C gd) (ip_ok f X) set_list (fun ov iv new => aug_store hn ov iv new)).pq fun D σ H ⟨μ, ρ, S, he, hs, h⟩ => by
    unfold evS at h
    refine ⟨μ, ρ, S, he, hs, h.bind.imp fun x S1 μ1 H1 _ e1 s1 h1 v rx => ?_⟩
    refine ⟨μ1, ρ, S1, he.mono e1, s1, h1.bind.imp fun y S2 μ2 H2 _ e2 s2 h2 u ry => ?_⟩
    obtain ⟨n, ds, a, vs, rfl, rfl, eo, ea, k1, k2, k3, h2⟩ := h2.withL s2 (rx.mono e2)
    cases y with
    | int j =>
      obtain ⟨d, ed, h3⟩ := Po.may (show Po X.K μ2 H2 (may (atI ds j) fun v => (evE C ce ρ S2).bind fun w S4 => (augD f v w S4).bind fun z S5 => (setD (.ref n) (.int j) z S5).bind fun _ S6 => Res.ok (Fl.nx ρ) S6) (fun fl _ μ' H' => flP X.K D fl μ' H') from h2)
      obtain ⟨w, ew, rw_⟩ := rp_at k2 ed
      refine ⟨a, vs, j, w, rfl, ry, .of k1, ew, μ2, ρ, S2, he.mono (e1.trans e2), s2, h3.bind.imp fun z S4 μ4 H4 _ e4 s4 h4 t rt => ?_⟩
      refine aug_rp s4 (rw_.mono e4) rt (h4.bind.imp fun z2 S5 μ5 H5 _ e5 s5 h5 t2 rt2 => ?_)
      refine set_rp s5 (((rx.mono e2).mono e4).mono e5) (show Rp X.K μ5 H5 (.int j) u from ry) rt2 (h5.bind.imp fun _ S6 μ6 H6 _ e6 s6 h6 _ => ?_)
      exact h6.at s6 σ ((he.mono (e1.trans (e2.trans (e4.trans e5)))).mono e6)
    | _ => exact (show False from h2).elim
/-- for -/
theorem s_for (hsn : notSet iter = true) (hi : SdI p tg iter ii) (hg : SdN p tg g) (hb : SdSs p ss css) : SdS p (.For tg iter ss [] pos) (.for g ii css) := fun X C gd hf =>
  (ps_for gd.own gd.calm (hi X C gd) (hg X C gd (.inl hf)) (hb X C gd hf) (fun x => no_fold hsn _ x)).pq fun D σ H ⟨μ, ρ, S, he, hs, h⟩ => by
    unfold evS at h
    refine ⟨μ, ρ, S, he, hs, h.bind.imp fun t S1 μ1 H1 _ e1 s1 h1 J hJ => ?_⟩
    generalize hbf : (fun d ρ1 S2 => may (bindN g d ρ1 S2) fun ρ2 => evSs C css ρ2 S2) = f at h1
    refine ⟨fun i m σ H => m = t.items.length - i ∧ i ≤ t.items.length ∧ ∃ μ ρ S, Ext X.K μ1 H1 μ H ∧ EnvOk X.K μ H ρ σ ∧ StOk X.K μ H S ∧ Po X.K μ H (loopS t.still f (t.items.drop i) ρ S) fun fl _ μ' H' => flP X.K D fl μ' H',
      ⟨t.items.length, rfl, Nat.zero_le _, μ1, ρ, S1, .refl, he.mono e1, s1, h1⟩, ?_⟩
    rintro i m σ2 H2 ⟨rfl, hi, μ2, ρ2, S2, x2, he2, s2, h2⟩
    by_cases hlt : i < t.items.length
    · rw [List.drop_eq_getElem_cons hlt] at h2
      unfold loopS at h2
      obtain ⟨hst, h2⟩ := h2.ask
      obtain ⟨hgo, _⟩ := hJ μ2 H2 S2 x2 s2 hst
      obtain ⟨hgo, hy⟩ := hgo i hlt
      refine .inr ⟨hgo, fun σ3 H3 => ∃ μ ρ S, Ext X.K μ1 H1 μ H3 ∧ EnvOk X.K μ H3 ρ σ3 ∧ StOk X.K μ H3 S ∧ Po X.K μ H3 (loopS t.still f (t.items.drop (i + 1)) ρ S) fun fl _ μ' H' => flP X.K D fl μ' H',
        fun σ3 H3 q => ⟨t.items.length - (i + 1), by omega, rfl, hlt, q⟩, fun v H3 y => ?_⟩
      obtain ⟨rfl, d, ed, rd⟩ := hy v H3 y
      have ed' : t.items[i] = d := by
        rw [List.getElem?_eq_getElem hlt] at ed
        exact Option.some.inj ed
      rw [ed', ← hbf] at h2
      obtain ⟨ρ3, eb, h3⟩ := Po.may (Po.bind h2)
      refine ⟨μ2, ρ2, S2, d, ρ3, he2, s2, rd, eb, fun σ' he' _ => ⟨μ2, ρ3, S2, he', s2, h3.imp fun fl S4 μ4 H4 _ e4 s4 h4 => ?_⟩⟩
      rw [hbf] at h4
      cases fl with
      | nx ρ4 => exact fun σ4 he4 => ⟨μ4, ρ4, S4, x2.trans e4, he4, s4, h4⟩
      | ct ρ4 => exact fun σ4 he4 => ⟨μ4, ρ4, S4, x2.trans e4, he4, s4, h4⟩
      | bk ρ4 => exact h4.at s4
      | rt d => exact h4.at s4
    · have e : i = t.items.length := by omega
      subst e
      rw [List.drop_length] at h2
      unfold loopS at h2
      obtain ⟨hst, h2⟩ := h2.ask
      exact .inl ⟨(hJ μ2 H2 S2 x2 s2 hst).2, h2.at s2 σ2 he2⟩
/-- while -/
theorem s_while (ht : SdT p a ct) (hb : SdSs p ss css) : SdS p (.While a ss [] pos) (.while ct css) := fun X C gd hf =>
  (ps_while gd.own (ht X C gd) (hb X C gd hf)).pq fun D σ H ⟨μ, ρ, S, he, hs, h⟩ => by
    unfold evS at h
    refine ⟨fun m σ H => ∃ μ ρ S, EnvOk X.K μ H ρ σ ∧ StOk X.K μ H S ∧ Po X.K μ H (whileS (evT C ct) (evSs C css) m ρ S) fun fl _ μ' H' => flP X.K D fl μ' H', ⟨turns, μ, ρ, S, he, hs, h⟩, ?_⟩
    rintro m σ2 H2 ⟨μ2, ρ2, S2, he2, s2, h2⟩
    cases m with
    | zero => exact h2.elim
    | succ m =>
      unfold whileS at h2
      refine ⟨μ2, ρ2, S2, he2, s2, h2.bind.imp fun k S3 μ3 H3 _ e3 s3 h3 => ?_⟩
      cases k with
      | true =>
        rw [if_pos rfl] at h3 ⊢
        refine ⟨fun σ4 H4 => ∃ μ ρ S, EnvOk X.K μ H4 ρ σ4 ∧ StOk X.K μ H4 S ∧ Po X.K μ H4 (whileS (evT C ct) (evSs C css) m ρ S) fun fl _ μ' H' => flP X.K D fl μ' H', fun σ4 H4 q => ⟨m, Nat.lt_succ_self m, q⟩, ?_⟩
        refine ⟨μ3, ρ2, S3, he2.mono e3, s3, h3.bind.imp fun fl S4 μ4 H4 _ e4 s4 h4 => ?_⟩
        cases fl with
        | nx ρ4 => exact fun σ4 he4 => ⟨μ4, ρ4, S4, he4, s4, h4⟩
        | ct ρ4 => exact fun σ4 he4 => ⟨μ4, ρ4, S4, he4, s4, h4⟩
        | bk ρ4 => exact h4.at s4
        | rt d => exact h4.at s4
      | false =>
        rw [if_neg Bool.false_ne_true] at h3 ⊢
        exact h3.at s3 σ2 (he2.mono e3)
end
end PQ

/-! From the text to the language, with the proof. -/
namespace PQ
open PySem PySem.Spec PyProof.Rows L2
section
variable {p : Pl} {a b e o i tg iter : Expr} {ca cb co ci ce : CE} {ct : CT} {ii : CI} {g : CN} {pos : Pos}
theorem no_swap2 (t : Expr) (ht : ∀ x q, t ≠ .Name x q) (l : Nat) (env : Env) : swapsWith e (some t) l env = pure false := by
  cases e <;> first | rfl | (cases t <;> first | rfl | exact absurd rfl (ht _ _))
theorem s_sub2 {sp : Pos} (hn : notSlice i = true) (ho : SdE p o co) (hi : SdE p i ci) (he' : SdE p e ce) : SdS p (.Assign [.Subscript o i sp] e pos) (.sub co ci ce) := fun X C gd hf =>
  (ps_asg (he' X C gd) (pg_sub (ho X C gd) (hi X C gd) set_list (fun v => sub_store hn _ v)) (by rw [show swapsWithSole [.Subscript o i sp] e pos.line X.env = swapsWith e (some (.Subscript o i sp)) pos.line X.env from by unfold swapsWithSole; rfl]; exact no_swap2 _ (fun x q z => by cases z) _ _) (by cases e <;> rfl) rfl).pq fun D σ H ⟨μ, ρ, S, he, hs, h⟩ => by
    unfold evS at h
    refine ⟨μ, ρ, S, he, hs, h.bind.imp fun d S1 μ1 H1 _ e1 s1 h1 w rd => ?_⟩
    refine ⟨μ1, ρ, S1, he.mono e1, s1, h1.bind.imp fun x S2 μ2 H2 _ e2 s2 h2 v rx => ?_⟩
    refine ⟨μ2, ρ, S2, he.mono (e1.trans e2), s2, h2.bind.imp fun y S3 μ3 H3 _ e3 s3 h3 u ry => ?_⟩
    exact set_rp s3 (rx.mono e3) ry ((rd.mono e2).mono e3) (h3.bind.imp fun _ S4 μ4 H4 _ e4 s4 h4 _ => h4.at s4 σ ((he.mono (e1.trans (e2.trans e3))).mono e4))
/-- (a, b) = .. -/
theorem s_setT {es : List Expr} {is : List Nat} {k : Nat} {q : Pos} (hg : NamesAt p es is) (ha : SdE p a ca) (hw : ∀ env : Env, env.scope = p.sc → swappedStores [.Tuple es k q] a env = pure none) : SdS p (.Assign [.Tuple es k q] a pos) (.set (.tup is) ca) := fun X C gd hf =>
  (ps_asg (ha X C gd) (sn_tup hg X C gd (.inl hf)) (by rw [show swapsWithSole [.Tuple es k q] a pos.line X.env = swapsWith a (some (.Tuple es k q)) pos.line X.env from by unfold swapsWithSole; rfl]; exact no_swap2 _ (fun x q z => by cases z) _ _) (hw _ gd.sc) rfl).pq fun D σ H h => asg_imp (by
    obtain ⟨μ, ρ, S, he, hs, h⟩ := h
    unfold evS at h
    exact ⟨μ, ρ, S, he, hs, h⟩)
/-- x = e, the stores in order -/
theorem s_setN {x : Str} {q : Pos} {j : Nat} (hx : NameAt p x j) (ha : SdE p a ca) (hsw : ∀ env : Env, env.scope = p.sc → swapsWith a (some (.Name x q)) pos.line env = pure false) : SdS p (.Assign [.Name x q] a pos) (.set (.nm j) ca) := fun X C gd hf =>
  (ps_asg (ha X C gd) (sn_nm hx X C gd (.inl hf)) (by rw [show swapsWithSole [.Name x q] a pos.line X.env = swapsWith a (some (.Name x q)) pos.line X.env from by unfold swapsWithSole; rfl]; exact hsw _ gd.sc) (by cases a <;> rfl) rfl).pq fun D σ H h => asg_imp (by
    obtain ⟨μ, ρ, S, he, hs, h⟩ := h
    unfold evS at h
    exact ⟨μ, ρ, S, he, hs, h⟩)
end
def bkS (sc : Scope) : ScopeKind := if sc.kind.isAnnotationScope then .function else sc.kind
def swB (sc : Scope) (value : Expr) (t : Str) (tl : Nat) : Bool := match value with
  | .ListComp _ _ s q => bkS sc == .function && sc.names.lookup t == some .local && tl == q.line && !(s.names.any fun (n, k) => n == t && (k == .local || k == .cell))
  | .SetComp _ _ s q => bkS sc == .function && sc.names.lookup t == some .local && tl == q.line && !(s.names.any fun (n, k) => n == t && (k == .local || k == .cell))
  | .DictComp _ _ _ s q => bkS sc == .function && sc.names.lookup t == some .local && tl == q.line && !(s.names.any fun (n, k) => n == t && (k == .local || k == .cell))
  | _ => false
theorem swB_ok {sc : Scope} {e : Expr} {t : Str} {q : Pos} {l : Nat} (h : swB sc e t q.line = false) (env : Env) (he : env.scope = sc) : swapsWith e (some (.Name t q)) l env = pure false := by
  subst he
  cases e <;> first
    | rfl
    | (show pure (env.blockKind == .function && env.kindOf t == some .local && q.line == _ && _) = _
       exact congrArg pure h)
def swpS (sc : Scope) (ts vs : List Expr) : Option (Option (List Str)) :=
  if (!(ts.length == 2 || ts.length == 3) || vs.length != ts.length || bkS sc != .function) = true then some none
  else if (vs.any fun | .Starred .. => true | _ => false) = true then some none
  else if ((ts.filterMap fun
    | .Name id pos => if (sc.names.lookup id == some .local && pos.line == (ts.head?.map (·.pos.line)).getD 0) = true then some id else none
    | _ => none).length != ts.length || (ts.filterMap fun
    | .Name id pos => if (sc.names.lookup id == some .local && pos.line == (ts.head?.map (·.pos.line)).getD 0) = true then some id else none
    | _ => none).eraseDups.length != (ts.filterMap fun
    | .Name id pos => if (sc.names.lookup id == some .local && pos.line == (ts.head?.map (·.pos.line)).getD 0) = true then some id else none
    | _ => none).length) = true then some none
  else if vs.all (foldedForSure 8) = true then some none
  else if vs.all (constantsAlone 8) = true then none
  else some (some (ts.filterMap fun
    | .Name id pos => if (sc.names.lookup id == some .local && pos.line == (ts.head?.map (·.pos.line)).getD 0) = true then some id else none
    | _ => none))
theorem swpS_ok {sc : Scope} {ts vs : List Expr} {r : Option (List Str)} {k k2 : Nat} {q q2 : Pos} (h : swpS sc ts vs = some r) (env : Env) (he : env.scope = sc) : swappedStores [.Tuple ts k q] (.Tuple vs k2 q2) env = pure r := by
  subst he
  unfold swpS at h
  unfold swappedStores
  show (if (!(ts.length == 2 || ts.length == 3) || vs.length != ts.length || env.blockKind != .function) = true then pure none else _) = _
  split at h
  · rename_i h1
    rw [if_pos (show (!(ts.length == 2 || ts.length == 3) || vs.length != ts.length || env.blockKind != .function) = true from h1)]
    exact congrArg pure (Option.some.inj h)
  · rename_i h1
    rw [if_neg (show ¬ (!(ts.length == 2 || ts.length == 3) || vs.length != ts.length || env.blockKind != .function) = true from h1)]
    show (if (vs.any fun | .Starred .. => true | _ => false) = true then pure none else _) = _
    split at h
    · rename_i h2
      rw [if_pos h2]
      exact congrArg pure (Option.some.inj h)
    · rename_i h2
      rw [if_neg h2]
      split at h
      · rename_i h3
        refine (if_pos ?_).trans (congrArg pure (Option.some.inj h))
        exact h3
      · rename_i h3
        refine (if_neg ?_).trans ?_
        · exact h3
        · split at h
          · rename_i h4
            exact (if_pos h4).trans (congrArg pure (Option.some.inj h))
          · rename_i h4
            refine (if_neg h4).trans ?_
            split at h
            · cases h
            · rename_i h5
              refine (if_neg h5).trans ?_
              exact congrArg pure (Option.some.inj h)
end PQ

/-! The compiler. -/
namespace PQ
open PySem PySem.Spec PyProof.Rows L2
/-- a name's place -/
def idxN (p : Pl) (x : Str) : Option { i : Nat // p.N[i]? = some x } := match p.N.findIdx? (· == x) with
  | some i => if h : p.N[i]? = some x then some ⟨i, h⟩ else none
  | none => none
def nameAt (p : Pl) (x : Str) : Option { i : Nat // NameAt p x i } := match idxN p x with
  | some ⟨i, h⟩ => if h1 : p.sc.names.lookup x = some .local then some ⟨i, h, .inl h1⟩ else if h2 : p.sc.names.lookup x = some .cell then some ⟨i, h, .inr h2⟩ else none
  | none => none
def namesAt (p : Pl) : (es : List Expr) → Option { is : List Nat // NamesAt p es is }
  | [] => some ⟨[], .nil⟩
  | .Name x q :: es => match nameAt p x, namesAt p es with
    | some ⟨i, h⟩, some ⟨is, hs⟩ => some ⟨i :: is, .cons h hs⟩
    | _, _ => none
  | _ => none
def cN (p : Pl) : (tg : Expr) → Option { g : CN // SdN p tg g }
  | .Name x q => match nameAt p x with
    | some ⟨i, h⟩ => some ⟨_, sn_nm h⟩
    | none => none
  | .Tuple es k q => match namesAt p es with
    | some ⟨is, h⟩ => some ⟨_, sn_tup h⟩
    | none => none
  | _ => none
/-- a built-in's name here -/
def isB_ (p : Pl) (x : Str) : Option (PLift (x ∈ p.B ∧ p.sc.names.lookup x = some .globalImplicit)) := if h : x ∈ p.B ∧ p.sc.names.lookup x = some .globalImplicit then some ⟨h⟩ else none
/-- a def's name here -/
def isF_ (p : Pl) (x : Str) : Option { i : Nat // p.T[i]? = some x ∧ p.sc.names.lookup x = some .globalImplicit ∧ (x == ("__debug__" : Str)) = false } := match p.T.findIdx? (· == x) with
  | some i => if h : p.T[i]? = some x ∧ p.sc.names.lookup x = some .globalImplicit ∧ (x == ("__debug__" : Str)) = false then some ⟨i, h⟩ else none
  | none => none
def copOf : (op : CmpOp) → Option { o : Cop // copOp o = op }
  | .Eq => some ⟨.eq, rfl⟩
  | .NotEq => some ⟨.ne, rfl⟩
  | .Lt => some ⟨.lt, rfl⟩
  | .LtE => some ⟨.le, rfl⟩
  | .Gt => some ⟨.gt, rfl⟩
  | .GtE => some ⟨.ge, rfl⟩
  | _ => none
def bopOf : (op : Operator) → Option { o : Bop // bopOp o = op }
  | .Add => some ⟨.add, rfl⟩
  | .Sub => some ⟨.sub, rfl⟩
  | _ => none
/-- a list by its look -/
def looksList : Nat → Expr → Bool
  | _, .List .. => true
  | _, .ListComp .. => true
  | _, .Call (.Name f _) _ _ _ => f == ("list" : Str) || f == ("sorted" : Str)
  | n + 1, .BinOp a .Add b _ => looksList n a || looksList n b
  | _, .Subscript _ (.Slice none none (some _) _) _ => true
  | _, _ => false
def ownOf (p : Pl) (scope : Scope) : List (Str × Nat) := scope.names.filterMap fun (x, k) => match k with
  | .local => (p.N.findIdx? (· == x)).map fun i => (x, i)
  | .cell => (p.N.findIdx? (· == x)).map fun i => (x, i)
  | _ => none
def glbIn (x : Str) : (l : List (Str × Gv)) → Option { g : Gv // (x, g) ∈ l }
  | [] => none
  | (y, g) :: r => if h : y = x then some ⟨g, by subst h; exact List.mem_cons_self⟩ else (match glbIn x r with
    | some ⟨g, h⟩ => some ⟨g, List.mem_cons_of_mem _ h⟩
    | none => none)
abbrev GlbOk (p : Pl) (x : Str) : Prop := p.sc.names.lookup x = some .globalImplicit ∧ (x == ("__debug__" : Str)) = false
abbrev VisOk (p : Pl) (x : Str) : Prop := (p.sc.names.lookup x = some .local ∨ p.sc.names.lookup x = some .cell ∨ p.sc.names.lookup x = some .free) ∧ (x == ("__debug__" : Str)) = false ∧ (x == ("__classdict__" : Str)) = false
mutual
def cE : Nat → (p : Pl) → (e : Expr) → Option { c : CE // SdE p e c }
  | 0, _, _ => none
  | n + 1, p, e => match cQ n p e with
    | some ⟨q, h⟩ => some ⟨_, sd_alloc h⟩
    | none => match e with
      | .Name x q => match idxN p x with
        | some ⟨i, h⟩ => if h2 : VisOk p x then some ⟨_, sd_var h h2.1 h2.2.1 h2.2.2⟩ else none
        | none => (match glbIn x p.G with
          | some ⟨.con d, h⟩ => if h2 : GlbOk p x then some ⟨_, sd_con h h2.1 h2.2⟩ else none
          | _ => none)
      | .Constant (.int i) j q => some ⟨.lit (.int i), sd_int⟩
      | .Constant (.str i) j q => some ⟨.lit (.str i), sd_str⟩
      | .Constant (.bool i) j q => some ⟨.lit (.bl i), sd_bl⟩
      | .Constant .none j q => some ⟨.lit .non, sd_non⟩
      | .Tuple es k q => match cA n p es with
        | some ⟨c, h⟩ => some ⟨_, sd_tup h⟩
        | none => none
      | .BinOp a op b q => match cE n p a, cE n p b with
        | some ⟨ca, ha⟩, some ⟨cb, hb⟩ => (match op with
          | .Add => some ⟨_, sd_add ha hb⟩
          | .Sub => some ⟨_, sd_sub ha hb⟩
          | .Mult => some ⟨_, sd_mul ha hb⟩
          | .FloorDiv => some ⟨_, sd_fdiv ha hb⟩
          | .Mod => some ⟨_, sd_mod ha hb⟩
          | .Pow => some ⟨_, sd_pow ha hb⟩
          | .LShift => some ⟨_, sd_shl ha hb⟩
          | .RShift => some ⟨_, sd_shr ha hb⟩
          | .BitAnd => some ⟨_, sd_band ha hb⟩
          | .BitOr => some ⟨_, sd_bor ha hb⟩
          | .BitXor => some ⟨_, sd_bxor ha hb⟩
          | _ => none)
        | _, _ => none
      | .UnaryOp .USub a q => match cE n p a with
        | some ⟨ca, ha⟩ => some ⟨_, sd_neg ha⟩
        | none => none
      | .UnaryOp .Not a q => match cE n p a with
        | some ⟨ca, ha⟩ => some ⟨_, sd_not ha⟩
        | none => none
      | .BoolOp op [a] q => match cE n p a with
        | some ⟨ca, ha⟩ => some ⟨ca, sd_one ha⟩
        | none => none
      | .BoolOp .And (a :: b :: r) q => match cE n p a, cE n p (.BoolOp .And (b :: r) q) with
        | some ⟨ca, ha⟩, some ⟨cb, hb⟩ => some ⟨_, sd_and ha hb⟩
        | _, _ => none
      | .BoolOp .Or (a :: b :: r) q => match cE n p a, cE n p (.BoolOp .Or (b :: r) q) with
        | some ⟨ca, ha⟩, some ⟨cb, hb⟩ => some ⟨_, sd_or ha hb⟩
        | _, _ => none
      | .IfExp t a b q => match cT n p t, cE n p a, cE n p b with
        | some ⟨ct, ht⟩, some ⟨ca, ha⟩, some ⟨cb, hb⟩ => some ⟨_, sd_ife ht ha hb⟩
        | _, _, _ => none
      | .Compare a ops bs q => match cC n p (.Compare a ops bs q) with
        | some ⟨c, h⟩ => some ⟨c, h.1.val⟩
        | none => none
      | .Subscript a (.Slice lo hi none p2) q => match cE n p a, cO n p lo, cO n p hi with
        | some ⟨ca, ha⟩, some ⟨cl, hl⟩, some ⟨ch, hh⟩ => some ⟨_, sd_slc ha hl hh⟩
        | _, _, _ => none
      | .Subscript a b q => if hn : notSlice b = true then (match cE n p a, cE n p b with
        | some ⟨ca, ha⟩, some ⟨cb, hb⟩ => some ⟨_, sd_idx hn ha hb⟩
        | _, _ => none) else none
      | .Call (.Attribute a m ap) [] [] q => if hc : notCall a = true ∧ (ap.endLine == q.line) = true then (match cE n p a with
        | some ⟨ca, ha⟩ => if h : m = "pop" then some ⟨.pop ca, by subst h; exact sd_pop hc.1 hc.2 ha⟩ else none
        | none => none) else none
      | .Call (.Attribute (.Constant (.str s) j cp) m ap) [e] [] q => if hc : m = "join" ∧ (ap.endLine == q.line) = true ∧ notStar e = true then (match cR n p e with
        | some ⟨cr, hr⟩ => some ⟨.join s cr, by
          obtain ⟨h1, h2, h3⟩ := hc
          subst h1
          exact sd_join h2 h3 hr⟩
        | none => none) else none
      | .Call (.Attribute a m ap) [e] [] q => if hc : notCall a = true ∧ (ap.endLine == q.line) = true ∧ notStar e = true then (match cE n p a with
        | some ⟨ca, ha⟩ =>
          if h : m = "extend" then (match cR n p e with
            | some ⟨cr, hr⟩ => some ⟨.ext ca cr, by subst h; exact sd_ext hc.1 hc.2.1 hc.2.2 ha hr⟩
            | none => none)
          else (match cE n p e with
            | some ⟨ce, he⟩ =>
              if h : m = "append" then some ⟨.app ca ce, by subst h; exact sd_app hc.1 hc.2.1 hc.2.2 ha he⟩
              else if h : m = "pop" then some ⟨.popAt ca ce, by subst h; exact sd_popAt hc.1 hc.2.1 hc.2.2 ha he⟩
              else none
            | none => none)
        | none => none) else none
      | .Call (.Name f q2) es [] q => match isF_ p f with
        | some ⟨i, hf⟩ => (match es with
          | [] => some ⟨_, sd_call0 hf.1 hf.2.1 hf.2.2⟩
          | e :: es => if hs : notStar e = true ∧ es.all notStar = true then (match cA n p (e :: es) with
            | some ⟨c, h⟩ => some ⟨_, sd_call hf.1 hf.2.1 hf.2.2 hs.1 hs.2 h⟩
            | none => none) else none)
        | none => match isB_ p f with
          | some ⟨hb⟩ => (match es with
            | [e] => if hs : notStar e = true then
                (if h : f = "int" then (match cE n p e with
                  | some ⟨c, hc⟩ => some ⟨.fn1 .int c, by subst h; exact sd_intT hb.1 hb.2 hs hc⟩
                  | none => none)
                else if h : f = "abs" then (match cE n p e with
                  | some ⟨c, hc⟩ => some ⟨.fn1 .abs c, by subst h; exact sd_abs hb.1 hb.2 hs hc⟩
                  | none => none)
                else if h : f = "str" then (match cE n p e with
                  | some ⟨c, hc⟩ => some ⟨.fn1 .str c, by subst h; exact sd_strT hb.1 hb.2 hs hc⟩
                  | none => none)
                else (match cR n p e with
                  | some ⟨c, hc⟩ =>
                    if h : f = "len" then some ⟨.agg .len c, by subst h; exact sd_len hb.1 hb.2 hs hc⟩
                    else if h : f = "tuple" then some ⟨.agg .tuple c, by subst h; exact sd_tuple hb.1 hb.2 hs hc⟩
                    else if h : f = "sum" then some ⟨.agg .sum c, by subst h; exact sd_sum hb.1 hb.2 hs hc⟩
                    else if h : f = "all" then some ⟨.agg .all c, by subst h; exact sd_all hb.1 hb.2 hs hc⟩
                    else if h : f = "any" then some ⟨.agg .any c, by subst h; exact sd_any hb.1 hb.2 hs hc⟩
                    else if h : f = "max" then some ⟨.agg .max c, by subst h; exact sd_max hb.1 hb.2 hs hc⟩
                    else if h : f = "min" then some ⟨.agg .min c, by subst h; exact sd_min hb.1 hb.2 hs hc⟩
                    else none
                  | none => none)) else none
            | [a, b] => if hs : notStar a = true ∧ notStar b = true then
                (if h : f = "isinstance" then (match b with
                  | .Name T q3 => (match isB_ p T, cE n p a with
                    | some ⟨hT⟩, some ⟨ca, ha⟩ =>
                      if h2 : T = "int" then some ⟨.isi ca .int, by subst h h2; exact sd_isi (t := .int) hb.1 hb.2 hT.1 hT.2 (by decide +kernel) (by decide) (by decide) hs.1 ha⟩
                      else if h2 : T = "bool" then some ⟨.isi ca .bool, by subst h h2; exact sd_isi (t := .bool) hb.1 hb.2 hT.1 hT.2 (by decide +kernel) (by decide) (by decide) hs.1 ha⟩
                      else if h2 : T = "str" then some ⟨.isi ca .str, by subst h h2; exact sd_isi (t := .str) hb.1 hb.2 hT.1 hT.2 (by decide +kernel) (by decide) (by decide) hs.1 ha⟩
                      else if h2 : T = "tuple" then some ⟨.isi ca .tuple, by subst h h2; exact sd_isi (t := .tuple) hb.1 hb.2 hT.1 hT.2 (by decide +kernel) (by decide) (by decide) hs.1 ha⟩
                      else none
                    | _, _ => none)
                  | _ => none)
                else (match cE n p a, cE n p b with
                  | some ⟨ca, ha⟩, some ⟨cb, hb'⟩ =>
                    if h : f = "min" then some ⟨.fn2 .min ca cb, by subst h; exact sd_min2 hb.1 hb.2 hs.1 hs.2 ha hb'⟩
                    else if h : f = "max" then some ⟨.fn2 .max ca cb, by subst h; exact sd_max2 hb.1 hb.2 hs.1 hs.2 ha hb'⟩
                    else none
                  | _, _ => none)) else none
            | _ => none)
          | none => (match es with
            | [a, b] => (match glbIn f p.G with
              | some ⟨.fn id, hm⟩ => if hs : (notStar a = true ∧ notStar b = true) ∧ GlbOk p f then (if h : id = "math.gcd" then (match cE n p a, cE n p b with
                | some ⟨ca, ha⟩, some ⟨cb, hb'⟩ => some ⟨.fn2 .gcd ca cb, by subst h; exact sd_gcd hm hs.2.1 hs.2.2 hs.1.1 hs.1.2 ha hb'⟩
                | _, _ => none) else none) else none
              | _ => none)
            | _ => none)
      | _ => none
def cO : Nat → (p : Pl) → (e : Option Expr) → Option { c : CO // SdO p e c }
  | 0, _, _ => none
  | n + 1, p, none => some ⟨.none, so_none⟩
  | n + 1, p, some e => match cE n p e with
    | some ⟨c, h⟩ => some ⟨_, so_some h⟩
    | none => none
def cA : Nat → (p : Pl) → (es : List Expr) → Option { c : CEs // SdA p es c }
  | 0, _, _ => none
  | n + 1, p, [] => some ⟨.nil, sa_nil⟩
  | n + 1, p, e :: es => if hs : notStar e = true then (match cE n p e, cA n p es with
    | some ⟨c, h⟩, some ⟨cs, hs'⟩ => some ⟨_, sa_cons h hs' (fun env => star_cons hs es env)⟩
    | _, _ => none) else none
def cR : Nat → (p : Pl) → (e : Expr) → Option { c : CR // SdR p e c }
  | 0, _, _ => none
  | n + 1, p, e => match cQ n p e with
    | some ⟨q, h⟩ => some ⟨_, sr_q h⟩
    | none => match cE n p e with
      | some ⟨c, h⟩ => some ⟨_, sr_e h⟩
      | none => none
def cQ : Nat → (p : Pl) → (e : Expr) → Option { c : CQ // SdQ p e c }
  | 0, _, _ => none
  | n + 1, p, e => match e with
    | .List es q => match cA n p es with
      | some ⟨c, h⟩ => some ⟨_, sq_disp h⟩
      | none => none
    | .ListComp elt [⟨tg, iter, [], 0⟩] scope q =>
      if hs : blkC p.N p.sc scope (ownOf p scope) = true ∧ notSet iter = true then (match cI n p tg iter, cN (p.within scope) tg, cE n (p.within scope) elt with
        | some ⟨ii, hi⟩, some ⟨g, hg⟩, some ⟨ce, he⟩ => if h : storeB p scope g = true ∧ inOwn (ownOf p scope) g = true then some ⟨_, sq_comp hi hs.1 hg h.1 h.2 he hs.2⟩ else none
        | _, _, _ => none) else none
    | .ListComp elt [⟨tg, iter, [c], 0⟩] scope q =>
      if hs : blkC p.N p.sc scope (ownOf p scope) = true ∧ notSet iter = true then (match cI n p tg iter, cN (p.within scope) tg, cE n (p.within scope) elt, cT n (p.within scope) c with
        | some ⟨ii, hi⟩, some ⟨g, hg⟩, some ⟨ce, he⟩, some ⟨ct, ht⟩ => if h : storeB p scope g = true ∧ inOwn (ownOf p scope) g = true then some ⟨_, sq_compIf hi hs.1 hg h.1 h.2 he hs.2 ht⟩ else none
        | _, _, _, _ => none) else none
    | .BinOp a .Add b q => if looksList 20 a || looksList 20 b then (match cR n p a, cR n p b with
      | some ⟨ca, ha⟩, some ⟨cb, hb⟩ => some ⟨_, sq_cat ha hb⟩
      | _, _ => none) else none
    | .Subscript a (.Slice none none (some (.UnaryOp .USub (.Constant (.int 1) k p1) p2)) p3) q => match cR n p a with
      | some ⟨ca, ha⟩ => some ⟨_, sq_rev ha⟩
      | none => none
    | .Call (.Name f q2) [.Call (.Name f2 q3) es2 [] q4] [] q => match isB_ p f, isB_ p f2 with
      | some ⟨hb⟩, some ⟨hb2⟩ => if h : f = "list" ∧ f2 = "range" then (match es2 with
          | [a] => if hs : notStar a = true then (match cE n p a with
            | some ⟨ca, ha⟩ => some ⟨.listRg (.lit (.int 0)) ca, by obtain ⟨h1, h2⟩ := h; subst h1 h2; exact sq_listRg1 hb.1 hb.2 hb2.1 hb2.2 hs ha⟩
            | none => none) else none
          | [a, b] => if hs : notStar a = true ∧ notStar b = true then (match cE n p a, cE n p b with
            | some ⟨ca, ha⟩, some ⟨cb, hb'⟩ => some ⟨.listRg ca cb, by obtain ⟨h1, h2⟩ := h; subst h1 h2; exact sq_listRg2 hb.1 hb.2 hb2.1 hb2.2 hs.1 hs.2 ha hb'⟩
            | _, _ => none) else none
          | _ => none)
        else if hf : f = "list" ∨ f = "sorted" then (match cR n p (.Call (.Name f2 q3) es2 [] q4) with
          | some ⟨c, hc⟩ =>
            if h : f = "list" then some ⟨.list c, by subst h; exact sq_list hb.1 hb.2 rfl hc⟩
            else if h : f = "sorted" then some ⟨.sorted c, by subst h; exact sq_sorted hb.1 hb.2 rfl hc⟩
            else none
          | none => none) else none
      | some ⟨hb⟩, none => if hf : f = "list" ∨ f = "sorted" then (match cR n p (.Call (.Name f2 q3) es2 [] q4) with
          | some ⟨c, hc⟩ =>
            if h : f = "list" then some ⟨.list c, by subst h; exact sq_list hb.1 hb.2 rfl hc⟩
            else if h : f = "sorted" then some ⟨.sorted c, by subst h; exact sq_sorted hb.1 hb.2 rfl hc⟩
            else none
          | none => none) else none
      | _, _ => none
    | .Call (.Name f q2) [e] [] q => match isB_ p f with
      | some ⟨hb⟩ => if hs : notStar e = true ∧ (f = "list" ∨ f = "sorted") then (match cR n p e with
          | some ⟨c, hc⟩ =>
            if h : f = "list" then some ⟨.list c, by subst h; exact sq_list hb.1 hb.2 hs.1 hc⟩
            else if h : f = "sorted" then some ⟨.sorted c, by subst h; exact sq_sorted hb.1 hb.2 hs.1 hc⟩
            else none
          | none => none) else none
      | none => none
    | _ => none
def cI : Nat → (p : Pl) → (tg e : Expr) → Option { c : CI // SdI p tg e c }
  | 0, _, _, _ => none
  | n + 1, p, tg, e => match e with
    | .Call (.Name f q) [a] [] pos => (match isB_ p f with
      | some ⟨hb⟩ => if h : f = "range" ∧ notStar a = true then (match cE n p a with
          | some ⟨ca, ha⟩ => some ⟨.rg (.lit (.int 0)) ca, by obtain ⟨h1, h2⟩ := h; subst h1; exact si_rg1 (pos2 := pos) hb.1 hb.2 h2 ha⟩
          | none => none)
        else (match cR n p (.Call (.Name f q) [a] [] pos) with
          | some ⟨c, h⟩ => some ⟨_, si_r h⟩
          | none => none)
      | none => (match cR n p (.Call (.Name f q) [a] [] pos) with
          | some ⟨c, h⟩ => some ⟨_, si_r h⟩
          | none => none))
    | .Call (.Name f q) [a, b] [] pos => (match isB_ p f with
      | some ⟨hb⟩ => if h : f = "range" ∧ notStar a = true ∧ notStar b = true then (match cE n p a, cE n p b with
          | some ⟨ca, ha⟩, some ⟨cb, hb'⟩ => some ⟨.rg ca cb, by obtain ⟨h1, h2, h3⟩ := h; subst h1; exact si_rg2 (pos2 := pos) hb.1 hb.2 h2 h3 ha hb'⟩
          | _, _ => none)
        else (match cR n p (.Call (.Name f q) [a, b] [] pos) with
          | some ⟨c, h⟩ => some ⟨_, si_r h⟩
          | none => none)
      | none => (match cR n p (.Call (.Name f q) [a, b] [] pos) with
          | some ⟨c, h⟩ => some ⟨_, si_r h⟩
          | none => none))
    | e => (match cR n p e with
      | some ⟨c, h⟩ => some ⟨_, si_r h⟩
      | none => none)
def cC : Nat → (p : Pl) → (e : Expr) → Option { c : CE // SdC p e c ∧ ∀ C ρ S d S', evE C c ρ S = .ok d S' → isB d = true }
  | 0, _, _ => none
  | n + 1, p, e => match e with
    | .Compare a [.Is] [.Constant .none j q2] q => (match cE n p a with
      | some ⟨ca, ha⟩ => some ⟨_, sc_isN ha, b_isN⟩
      | none => none)
    | .Compare a [.IsNot] [.Constant .none j q2] q => (match cE n p a with
      | some ⟨ca, ha⟩ => some ⟨_, sc_notN ha, b_notN⟩
      | none => none)
    | .Compare a [.In] [b] q => if hm : behindInMarks .In b = false then (match cE n p a, cR n p b with
      | some ⟨ca, ha⟩, some ⟨cb, hb⟩ => some ⟨_, sc_in hm ha hb, b_in⟩
      | _, _ => none) else none
    | .Compare a [.NotIn] [b] q => if hm : behindInMarks .NotIn b = false then (match cE n p a, cR n p b with
      | some ⟨ca, ha⟩, some ⟨cb, hb⟩ => some ⟨_, sc_notIn hm ha hb, b_notIn⟩
      | _, _ => none) else none
    | .Compare a [op] [b] q => (match copOf op, cE n p a, cE n p b with
      | some ⟨o, ho⟩, some ⟨ca, ha⟩, some ⟨cb, hb⟩ => some ⟨.cmp o ca cb, by subst ho; exact sc_cmp o ha hb, b_cmp⟩
      | _, _, _ => none)
    | .Compare a [op, op2] [b, c] q => (match copOf op, copOf op2, cE n p a, cE n p b, cE n p c with
      | some ⟨o, ho⟩, some ⟨o2, ho2⟩, some ⟨ca, ha⟩, some ⟨cb, hb⟩, some ⟨cc, hc⟩ => if hm : lastMarks [op, op2] [b, c] = false then some ⟨.chn o o2 ca cb cc, by subst ho ho2; exact sc_chn o o2 hm ha hb hc, b_chn⟩ else none
      | _, _, _, _, _ => none)
    | _ => none
def cT : Nat → (p : Pl) → (e : Expr) → Option { c : CT // SdT p e c }
  | 0, _, _ => none
  | n + 1, p, e => match e with
    | .UnaryOp .Not a q => (match cT n p a with
      | some ⟨c, h⟩ => some ⟨_, st_not h⟩
      | none => none)
    | .BoolOp op vs q => (match cW n p (.BoolOp op vs q) with
      | some ⟨c, h⟩ => some ⟨c, st_w h⟩
      | none => none)
    | .Compare a ops bs q => (match cC n p (.Compare a ops bs q) with
      | some ⟨c, h⟩ => some ⟨.v c, h.1.test h.2⟩
      | none => none)
    | e => if hp : plainTest e = true then (match cE n p e with
      | some ⟨c, h⟩ => some ⟨_, st_plain hp h⟩
      | none => none) else none
def cW : Nat → (p : Pl) → (e : Expr) → Option { c : CT // SdW p e c }
  | 0, _, _ => none
  | n + 1, p, e => match e with
    | .BoolOp .And [a] q => (match cT n p a with
      | some ⟨c, h⟩ => some ⟨c, sw_and1 h⟩
      | none => none)
    | .BoolOp .Or [a] q => (match cT n p a with
      | some ⟨c, h⟩ => some ⟨c, sw_or1 h⟩
      | none => none)
    | .BoolOp .And (a :: b :: r) q => (match cT n p a, cW n p (.BoolOp .And (b :: r) q) with
      | some ⟨ca, ha⟩, some ⟨cb, hb⟩ => some ⟨_, sw_and ha hb⟩
      | _, _ => none)
    | .BoolOp .Or (a :: b :: r) q => (match cT n p a, cW n p (.BoolOp .Or (b :: r) q) with
      | some ⟨ca, ha⟩, some ⟨cb, hb⟩ => some ⟨_, sw_or ha hb⟩
      | _, _ => none)
    | _ => none
end
end PQ

/-! The compiler of statements; whole defs. -/
namespace PQ
open PySem PySem.Spec PyProof.Rows L2
/-- a comprehension's parts -/
def asgLc0 (m : Nat) (p : Pl) (x : Str) (q2 : Pos) (q : Pos) (elt tg iter : Expr) (scope : Scope) (q3 : Pos) : Option { c : CS // SdS p (.Assign [.Name x q2] (.ListComp elt [⟨tg, iter, [], 0⟩] scope q3) q) c } :=
  if hs : blkC p.N p.sc scope (ownOf p scope) = true ∧ notSet iter = true ∧ p.sc.names.lookup x = some .local ∧ swapB p.sc x scope q2.line q3.line = true then (match idxN p x, cI m p tg iter, cN (p.within scope) tg, cE m (p.within scope) elt with
    | some ⟨j, hj⟩, some ⟨ii, hi⟩, some ⟨g, hg⟩, some ⟨ce, he⟩ => if h : storeB p scope g = true ∧ inOwn (ownOf p scope) g = true then some ⟨_, s_setLc hj hs.2.2.1 hs.2.2.2 hi hs.1 hg h.1 h.2 he hs.2.1⟩ else none
    | _, _, _, _ => none) else none
def asgLc1 (m : Nat) (p : Pl) (x : Str) (q2 : Pos) (q : Pos) (elt tg iter c : Expr) (scope : Scope) (q3 : Pos) : Option { r : CS // SdS p (.Assign [.Name x q2] (.ListComp elt [⟨tg, iter, [c], 0⟩] scope q3) q) r } :=
  if hs : blkC p.N p.sc scope (ownOf p scope) = true ∧ notSet iter = true ∧ p.sc.names.lookup x = some .local ∧ swapB p.sc x scope q2.line q3.line = true then (match idxN p x, cI m p tg iter, cN (p.within scope) tg, cE m (p.within scope) elt, cT m (p.within scope) c with
    | some ⟨j, hj⟩, some ⟨ii, hi⟩, some ⟨g, hg⟩, some ⟨ce, he⟩, some ⟨ct, ht⟩ => if h : storeB p scope g = true ∧ inOwn (ownOf p scope) g = true then some ⟨_, s_setLcIf hj hs.2.2.1 hs.2.2.2 hi hs.1 hg h.1 h.2 he hs.2.1 ht⟩ else none
    | _, _, _, _, _ => none) else none
def asgGs (m : Nat) (p : Pl) (x : Str) (q2 : Pos) (q : Pos) (elt : Expr) (scope : Scope) (q3 : Pos) : (gs : List Comprehension) → Option { c : CS // SdS p (.Assign [.Name x q2] (.ListComp elt gs scope q3) q) c }
  | [⟨tg, iter, ifs, a⟩] => if ha : a = 0 then (match ifs with
      | [] => by subst ha; exact asgLc0 m p x q2 q elt tg iter scope q3
      | [c] => by subst ha; exact asgLc1 m p x q2 q elt tg iter c scope q3
      | _ => none) else none
  | _ => none
def asgName (m : Nat) (p : Pl) (x : Str) (q2 : Pos) (e : Expr) (q : Pos) : Option { c : CS // SdS p (.Assign [.Name x q2] e q) c } :=
  if hsw : swB p.sc e x q2.line = false then (match nameAt p x, cE m p e with
    | some ⟨j, hj⟩, some ⟨c, h⟩ => some ⟨_, s_setN hj h (fun env he => swB_ok hsw env he)⟩
    | _, _ => none)
  else (match e with
    | .ListComp elt gs scope q3 => asgGs m p x q2 q elt scope q3 gs
    | _ => none)
def nm? : (e : Expr) → Option { x : Str × Pos // e = .Name x.1 x.2 }
  | .Name x q => some ⟨(x, q), rfl⟩
  | _ => none
def asgPar (m : Nat) (p : Pl) (q q2 q3 : Pos) (k k2 : Nat) (e1 e2 a b : Expr) : Option { c : CS // SdS p (.Assign [.Tuple [e1, e2] k q2] (.Tuple [a, b] k2 q3) q) c } := match nm? e1, nm? e2 with
  | some ⟨x, hx⟩, some ⟨y, hy⟩ => (match idxN p x.1, idxN p y.1, cE m p a, cE m p b with
    | some ⟨j, hj⟩, some ⟨k', hk⟩, some ⟨ca, ha⟩, some ⟨cb, hb⟩ => if h : j ≠ k' ∧ p.sc.names.lookup x.1 = some .local ∧ p.sc.names.lookup y.1 = some .local ∧ notStar a = true ∧ notStar b = true ∧ swpS p.sc [.Name x.1 x.2, .Name y.1 y.2] [a, b] = some (some [x.1, y.1]) then
        some ⟨.par j k' ca cb, by subst hx hy; exact s_par hj hk h.1 h.2.1 h.2.2.1 h.2.2.2.1 h.2.2.2.2.1 ha hb (fun env he => swpS_ok h.2.2.2.2.2 env he)⟩ else none
    | _, _, _, _ => none)
  | _, _ => none
def asgTT (m : Nat) (p : Pl) (es vs : List Expr) (q q2 q3 : Pos) (k k2 : Nat) : Option { c : CS // SdS p (.Assign [.Tuple es k q2] (.Tuple vs k2 q3) q) c } :=
  if hw : swpS p.sc es vs = some none then (match namesAt p es, cE m p (.Tuple vs k2 q3) with
    | some ⟨is, hi⟩, some ⟨c, h⟩ => some ⟨_, s_setT hi h (fun env he => swpS_ok hw env he)⟩
    | _, _ => none)
  else (match es with
    | [e1, e2] => (match vs with
      | [a, b] => asgPar m p q q2 q3 k k2 e1 e2 a b
      | _ => none)
    | _ => none)
def notTup : Expr → Bool
  | .Tuple .. => false
  | _ => true
theorem sw_no {ts : Expr} {e : Expr} (h : notTup e = true) (env : Env) : swappedStores [ts] e env = pure none := by
  cases e <;> first | (cases h; done) | (cases ts <;> rfl)
def asgTup (m : Nat) (p : Pl) (es : List Expr) (k : Nat) (q2 : Pos) (e : Expr) (q : Pos) : Option { c : CS // SdS p (.Assign [.Tuple es k q2] e q) c } :=
  if hw : notTup e = true then (match namesAt p es, cE m p e with
    | some ⟨is, hi⟩, some ⟨c, h⟩ => some ⟨_, s_setT hi h (fun env _ => sw_no hw env)⟩
    | _, _ => none)
  else (match e with
    | .Tuple vs k2 q3 => asgTT m p es vs q q2 q3 k k2
    | _ => none)
def asgSub (m : Nat) (p : Pl) (o i : Expr) (q2 : Pos) (e : Expr) (q : Pos) : Option { c : CS // SdS p (.Assign [.Subscript o i q2] e q) c } :=
  if hn : notSlice i = true then (match cE m p o, cE m p i, cE m p e with
    | some ⟨co, ho⟩, some ⟨ci, hi⟩, some ⟨c, h⟩ => some ⟨_, s_sub2 hn ho hi h⟩
    | _, _, _ => none) else none
def cAsg (m : Nat) (p : Pl) (e : Expr) (q : Pos) : (t : Expr) → Option { c : CS // SdS p (.Assign [t] e q) c }
  | .Name x q2 => asgName m p x q2 e q
  | .Tuple es k q2 => asgTup m p es k q2 e q
  | .Subscript o i q2 => asgSub m p o i q2 e q
  | _ => none
def cAug (m : Nat) (p : Pl) (op : Operator) (e : Expr) (q : Pos) : (t : Expr) → Option { c : CS // SdS p (.AugAssign t op e q) c }
  | .Name x q2 => (match bopOf op, nameAt p x, cE m p e with
      | some ⟨f, hf⟩, some ⟨j, hj⟩, some ⟨c, h⟩ => some ⟨.aug j f c, by subst hf; exact s_aug hj h⟩
      | _, _, _ => none)
  | .Subscript o i q2 => if hn : notSlice i = true then (match bopOf op, cE m p o, cE m p i, cE m p e with
      | some ⟨f, hf⟩, some ⟨co, ho⟩, some ⟨ci, hi⟩, some ⟨c, h⟩ => some ⟨.augS co ci f c, by subst hf; exact s_augS hn ho hi h⟩
      | _, _, _, _ => none) else none
  | _ => none
mutual
def cS (m : Nat) : Nat → (p : Pl) → (s : Stmt) → Option { c : CS // SdS p s c }
  | 0, _, _ => none
  | n + 1, p, s => match s with
    | .Pass q => some ⟨.pass, s_pass⟩
    | .Break q => some ⟨.brk, s_brk⟩
    | .Continue q => some ⟨.cont, s_cont⟩
    | .Return r q => (match r with
      | some e => (match cE m p e with
        | some ⟨c, h⟩ => some ⟨_, s_ret h⟩
        | none => none)
      | none => none)
    | .Expr e q => if hn : notComp e = true then (match cE m p e with
      | some ⟨c, h⟩ => some ⟨_, s_ex hn h⟩
      | none => none) else none
    | .If t a b q => (match cT m p t, cSs m n p a, cSs m n p b with
      | some ⟨ct, ht⟩, some ⟨ca, ha⟩, some ⟨cb, hb⟩ => some ⟨_, s_if ht ha hb⟩
      | _, _, _ => none)
    | .For tg iter b oe q => (match oe with
      | [] => if hs : notSet iter = true then (match cI m p tg iter, cN p tg, cSs m n p b with
        | some ⟨ii, hi⟩, some ⟨g, hg⟩, some ⟨cb, hb⟩ => some ⟨_, s_for hs hi hg hb⟩
        | _, _, _ => none) else none
      | _ => none)
    | .While t b oe q => (match oe with
      | [] => (match cT m p t, cSs m n p b with
        | some ⟨ct, ht⟩, some ⟨cb, hb⟩ => some ⟨_, s_while ht hb⟩
        | _, _ => none)
      | _ => none)
    | .AugAssign t op e q => cAug m p op e q t
    | .Assign ts e q => (match ts with
      | [t] => cAsg m p e q t
      | _ => none)
    | _ => none
def cSs (m : Nat) : Nat → (p : Pl) → (s : List Stmt) → Option { c : CSs // SdSs p s c }
  | 0, _, _ => none
  | n + 1, p, [] => some ⟨.nil, ss_nil⟩
  | n + 1, p, s :: ss => (match cS m n p s, cSs m n p ss with
    | some ⟨c, h⟩, some ⟨cs, hs⟩ => some ⟨_, ss_cons h hs⟩
    | _, _ => none)
end

/-! ### whole defs -/
/-- a def: its name, its names by slot, how many of them are parameters, its body -/
structure Fn where
  name : Str
  N : List Str
  ps : Nat
  body : CSs
def startE (n : Nat) (ds : List D) : En := ds.map some ++ List.replicate (n - ds.length) none
mutual
/-- no number of the store from n on -/
def below (n : Nat) : D → Prop
  | .tup ds => belows n ds
  | .fix ds => belows n ds
  | .ref i => i < n
  | _ => True
def belows (n : Nat) : List D → Prop
  | [] => True
  | d :: ds => below n d ∧ belows n ds
end
def Ob.below (n : Nat) : Ob → Prop
  | .lst ds => belows n ds
/-- what a call made is out of reach behind it -/
def Safe (S : Sto) (d : D) (S' : Sto) : Prop := below S.length d ∧ S.length ≤ S'.length ∧ ∀ (i : Nat) o, i < S.length → S'[i]? = some o → S[i]? = some o ∨ o.below S.length
noncomputable def gc (S : Sto) (d : D) (S' : Sto) : Res D := open Classical in if Safe S d S' then .ok d (S'.take S.length) else .ok d S'
/-- a body's run -/
noncomputable def runB (C : Orc) (f : Fn) (ds : List D) (S : Sto) : Res D := (evSs C f.body (startE f.N.length ds) S).bind fun fl S' => match fl with
  | .nx _ => .ok .non S'
  | .rt d => .ok d S'
  | _ => .bad
noncomputable def callF (C : Orc) (f : Fn) (ds : List D) (S : Sto) : Res D := if ds.length = f.ps then (runB C f ds S).bind fun d S' => gc S d S' else .bad
/-- the defs, calls at most k deep -/
noncomputable def orc (T : List Fn) : Nat → Orc
  | 0, _, _, _ => .bad
  | k + 1, f, ds, S => match T[f]? with
    | some fn => callF (orc T k) fn ds S
    | none => .bad

section
variable {K : Fg} {μ μ' : List Addr} {H H' : Hp} {S S' : Sto}
mutual
theorem below_rp : ∀ (d : D) (v : V), Rp K μ H d v → below μ.length d
  | .non, _, _ => trivial
  | .bl _, _, _ => trivial
  | .int _, _, _ => trivial
  | .str _, _, _ => trivial
  | .tup ds, _, ⟨_, vs, _, _, h, _⟩ => belows_rp ds vs h
  | .fix ds, _, ⟨_, vs, _, _, h, _⟩ => belows_rp ds vs h
  | .ref i, _, ⟨_, _, h⟩ => (List.getElem?_eq_some_iff.mp h).1
theorem belows_rp : ∀ (ds : List D) (vs : List V), RpA K μ H ds vs → belows μ.length ds
  | [], _, _ => trivial
  | d :: ds, _, ⟨v, r, _, h1, h2⟩ => ⟨below_rp d v h1, belows_rp ds r h2⟩
end
mutual
theorem rp_below {n : Nat} (hn : n ≤ μ.length) : ∀ (d : D) (v : V), below n d → Rp K μ H d v → Rp K (μ.take n) H d v
  | .non, _, _, h => h
  | .bl _, _, _, h => h
  | .int _, _, _, h => h
  | .str _, _, _, h => h
  | .tup ds, _, b, ⟨a, vs, h1, h2, h3, h4⟩ => ⟨a, vs, h1, h2, rps_below hn ds vs b h3, h4⟩
  | .fix ds, _, b, ⟨a, vs, h1, h2, h3, h4⟩ => ⟨a, vs, h1, h2, rps_below hn ds vs b h3, h4⟩
  | .ref i, _, b, ⟨a, h1, h2⟩ => ⟨a, h1, by
    rw [List.getElem?_take_of_lt b]
    exact h2⟩
theorem rps_below {n : Nat} (hn : n ≤ μ.length) : ∀ (ds : List D) (vs : List V), belows n ds → RpA K μ H ds vs → RpA K (μ.take n) H ds vs
  | [], _, _, h => h
  | d :: ds, _, b, ⟨v, r, h1, h2, h3⟩ => ⟨v, r, h1, rp_below hn d v b.1 h2, rps_below hn ds r b.2 h3⟩
end
theorem gc_ok (hs : StOk K μ H S) (e : Ext K μ H μ' H') (hs' : StOk K μ' H' S') {d : D} {v : V} (r : Rp K μ' H' d v) {Q : V → Hp → Prop} (h : Po K μ H (gc S d S') fun d _ μ' H' => ∀ v, Rp K μ' H' d v → Q v H') : Q v H' := by
  unfold gc at h
  split at h
  · rename_i sf
    obtain ⟨b, l, old⟩ := sf
    obtain ⟨l', rfl, n'⟩ := e.pre
    have et : (μ ++ l').take S.length = μ := by rw [← hs.len, List.take_left' rfl]
    refine h μ H' ⟨⟨[], by simp, fun a z => nomatch z⟩, e.alive, e.fr, e.tup, e.fix⟩ ⟨by rw [List.length_take, hs.len]; omega, hs.nd, fun i o a e1 e2 => ?_⟩ v ?_
    · have hi : i < S.length := by rw [← hs.len]; exact (List.getElem?_eq_some_iff.mp e2).1
      rw [List.getElem?_take_of_lt hi] at e1
      have bo : o.below S.length := by
        rcases old i o hi e1 with q | q
        · have := hs.ob i o a q e2
          cases o with
          | lst ds =>
            obtain ⟨vs, _, k, _⟩ := this
            rw [← hs.len]
            exact belows_rp ds vs k
        · exact q
      have k := hs'.ob i o a e1 (by rw [List.getElem?_append_left (by rw [hs.len]; exact hi)]; exact e2)
      cases o with
      | lst ds =>
        obtain ⟨vs, k1, k2, k3⟩ := k
        refine ⟨vs, k1, ?_, k3⟩
        have := rps_below (n := S.length) (by rw [List.length_append, hs.len]; omega) ds vs bo k2
        rw [et] at this
        exact this
    · have := rp_below (n := S.length) (by rw [List.length_append, hs.len]; omega) d v b r
      rw [et] at this
      exact this
  · exact h μ' H' e hs' v r
theorem start_ok {N : List Str} {ds : List D} {vs : List V} (r : RpA K μ H ds vs) : EnvOk K μ H (startE N.length ds) (L2.start N vs) := by
  unfold startE L2.start
  have hl := r.length
  refine ⟨by simp only [List.length_append, List.length_map, List.length_replicate]; omega, fun i d q => ?_⟩
  by_cases hi : i < ds.length
  · rw [List.getElem?_append_left (by rw [List.length_map]; exact hi), List.getElem?_map] at q
    cases e : ds[i]? with
    | none => rw [e] at q; cases q
    | some d' =>
      rw [e] at q
      cases q
      obtain ⟨v, e1, r1⟩ := r.get e
      refine ⟨v, ?_, r1⟩
      rw [List.getElem?_append_left (by rw [List.length_map]; omega), List.getElem?_map, e1]
      rfl
  · rw [List.getElem?_append_right (by rw [List.length_map]; omega), List.getElem?_replicate] at q
    split at q <;> cases q
end
/-- what a def keeps, from its body -/
theorem fn_ok {P : Program} {w : World} {K : Fg} {mg : Str → Option Value} {base : Heap} {C : Orc} {p : Pl} {fn : Fn} {i k : Nat} {x qual : Str} {params : Arguments} {body : List Stmt} {scope : Scope} {f : Addr} {fd : FuncData} (F : FunD K x qual params body scope [] [] f fd) (ps : List Str)
    (Sc : FnScope fn.N ps scope) (hps : ps.length = fn.ps) (hN : p.N = fn.N) (hsc : p.sc = scope) (hb : SdSs p body fn.body) (hC : ∀ ds S, C i ds S = .bad → False → False)
    (blt : ∀ x, x ∈ p.B → mg x = none)
    (glb : ∀ x g, (x, g) ∈ p.G → GvOk K mg x g)
    (fns : ∀ (j : Nat) y, p.T[j]? = some y → ∃ g gd ps, mg y = some (.ref g) ∧ FnOk P w K mg base CX0 k g gd ps (spC K C j) ∧ PySem.W.keepIn K (.ref g) = true ∧ Binds K gd ps [])
    (hk : k ≤ 300) : FnOk P w K mg base CX0 (k + 1) f fd ps (fun vs H Q _ => ∃ μ ds S, StOk K μ H S ∧ RpA K μ H ds vs ∧ Po K μ H (callF C fn ds S) fun d _ μ' H' => ∀ v, Rp K μ' H' d v → Q v H') := by
  refine F.ok Sc (fun vs H Q E h => ?_) (fun cdv A outer s H vs Q E hr h => ?_)
  · obtain ⟨μ, ds, S, _, r, h⟩ := h
    unfold callF at h
    split at h
    · rename_i hl
      rw [← r.length, hl, hps]
    · exact h.elim
  · obtain ⟨μ, ds, S, hs, r, h⟩ := h
    unfold callF at h
    split at h
    · rename_i hl
      generalize hX : cxOf CX0 P w K mg base fn.N qual scope f cdv A outer s H E = X
      have gd : Good X.nox p C := by
        subst hX
        refine ⟨rfl, Sc.nd, ?_, PassesOwn.never, hN.symm, hsc.symm, blt, glb, fun j y hy => ?_⟩
        · have := hr.units
          have h2 := hr.un
          show (A.deeper _).units + 80 < cLine
          omega
        · obtain ⟨g, gd, ps, h1, h2, h3, h4⟩ := fns j y hy
          exact ⟨g, gd, ps, k, h1, h2, hr, h3, h4⟩
      have hfn : X.nox.fn = (fun _ => true) := by subst hX; rfl
      have hK : X.nox.K = K := by subst hX; rfl
      refine ⟨_, (hb X.nox C gd hfn).nox, ?_⟩
      rw [hK]
      refine ⟨μ, startE fn.N.length ds, S, start_ok r, hs, ?_⟩
      have h : Po K μ H ((runB C fn ds S).bind fun d S' => gc S d S') _ := h
      unfold runB at h
      generalize evSs C fn.body (startE fn.N.length ds) S = rr at h
      cases rr with
      | ok fl S' =>
        intro μ' H' e s'
        cases fl with
        | nx ρ => exact fun σ he => gc_ok hs e s' (d := .non) (v := .non) rfl h
        | rt d => exact fun v rv => gc_ok hs e s' rv h
        | bk ρ => exact (h : False).elim
        | ct ρ => exact (h : False).elim
      | exc c fs S' => exact h.elim
      | bad => exact h.elim
    · exact h.elim
end PQ

/-! A whole program. -/
namespace PQ
open PySem PySem.Spec PyProof.Rows L2
/-- a def of the program as it stands behind the top -/
structure DefOk (K : Fg) (mg : Str → Option Value) (T B : List Str) (G : List (Str × Gv)) (fn : Fn) : Prop where
  ex : ∃ (f : Addr) (fd : FuncData) (qual : Str) (ps : List Str) (params : Arguments) (body : List Stmt) (scope : Scope), mg fn.name = some (.ref f) ∧ FunD K fn.name qual params body scope [] [] f fd ∧ FnScope fn.N ps scope ∧ ps.length = fn.ps ∧
    SdSs ⟨T, B, fn.N, scope, G⟩ body fn.body ∧ ∀ (s : Shared) (us : List Value), us.length = ps.length → BindsTo s fd ⟨us, []⟩ (ps.zip us)
theorem binds_of {K : Fg} {fd : FuncData} {ps : List Str} (h : ∀ (s : Shared) (us : List Value), us.length = ps.length → BindsTo s fd ⟨us, []⟩ (ps.zip us)) : Binds K fd ps [] := fun s us _ hl => by
  rw [List.append_nil] at hl ⊢
  exact h s us hl
theorem all_ok {P : Program} {w : World} {K : Fg} {mg : Str → Option Value} {base : Heap} {T : List Fn} {names B : List Str} {Gs : List (Str × Gv)} (hn : T.map (·.name) = names) (hB : ∀ x ∈ B, mg x = none) (hG : ∀ x g, (x, g) ∈ Gs → GvOk K mg x g) (hT : ∀ fn ∈ T, DefOk K mg names B Gs fn) :
    ∀ (k : Nat), k ≤ 300 → ∀ (i : Nat) fn, T[i]? = some fn → ∃ f fd ps, mg fn.name = some (.ref f) ∧ FnOk P w K mg base CX0 k f fd ps (spC K (orc T k) i) ∧ PySem.W.keepIn K (.ref f) = true ∧ Binds K fd ps []
  | 0, _, i, fn, h => by
    obtain ⟨f, fd, qual, ps, params, body, scope, h1, h2, h3, h4, h5, h6⟩ := (hT fn (List.mem_of_getElem? h)).ex
    refine ⟨f, fd, ps, h1, ⟨fun vs H Q E z => ?_, fun A outer s H args us vs Q E hr e0 hb r z => ?_⟩, h2.kp, binds_of h6⟩
    · obtain ⟨μ, ds, S, _, _, z⟩ := z
      exact z.elim
    · obtain ⟨μ, ds, S, _, _, z⟩ := z
      exact z.elim
  | k + 1, hk, i, fn, h => by
    obtain ⟨f, fd, qual, ps, params, body, scope, h1, h2, h3, h4, h5, h6⟩ := (hT fn (List.mem_of_getElem? h)).ex
    exact ⟨f, fd, ps, h1, step k hk i fn h f fd qual ps params body scope h2 h3 h4 h5 (all_ok hn hB hG hT k (by omega)), h2.kp, binds_of h6⟩
where
  step (k : Nat) (hk : k + 1 ≤ 300) (i : Nat) (fn : Fn) (h : T[i]? = some fn) (f : Addr) (fd : FuncData) (qual : Str) (ps : List Str) (params : Arguments) (body : List Stmt) (scope : Scope) (h2 : FunD K fn.name qual params body scope [] [] f fd) (h3 : FnScope fn.N ps scope) (h4 : ps.length = fn.ps)
      (h5 : SdSs ⟨names, B, fn.N, scope, Gs⟩ body fn.body) (ih : ∀ (i : Nat) fn, T[i]? = some fn → ∃ f fd ps, mg fn.name = some (.ref f) ∧ FnOk P w K mg base CX0 k f fd ps (spC K (orc T k) i) ∧ PySem.W.keepIn K (.ref f) = true ∧ Binds K fd ps []) : FnOk P w K mg base CX0 (k + 1) f fd ps (spC K (orc T (k + 1)) i) := by
    have F := fn_ok (P := P) (w := w) (mg := mg) (base := base) (C := orc T k) (p := ⟨names, B, fn.N, scope, Gs⟩) (fn := fn) (i := i) (k := k) h2 ps h3 h4 rfl rfl h5 (fun _ _ _ z => z) hB hG (fun j y hy => by
      have hy : names[j]? = some y := hy
      rw [← hn, List.getElem?_map] at hy
      cases e : T[j]? with
      | none => rw [e] at hy; cases hy
      | some gn =>
        rw [e] at hy
        cases hy
        obtain ⟨g, gd, qs, k1, k2, k3, k4⟩ := ih j gn e
        exact ⟨g, gd, qs, k1, k2, k3, k4⟩) (by omega)
    refine F.imp fun vs H Q E z => ?_
    obtain ⟨μ, ds, S, s1, s2, s3⟩ := z
    refine ⟨μ, ds, S, s1, s2, ?_⟩
    have e : orc T (k + 1) i ds S = callF (orc T k) fn ds S := by
      show (match T[i]? with
        | some fn => callF (orc T k) fn ds S
        | none => Res.bad) = _
      rw [h]
    rw [e] at s3
    exact s3
/-- a def, from the head's facts and the compiler's word -/
theorem def_ok {K : Fg} {h : Heap} {mg : Str → Option Value} {fn : List He.DefD} {fa : List He.Fa} {names B N ps : List Str} {Gs : List (Str × Gv)} {x : Str} {n : Nat} {body : CSs} (X : K.In h) (G : h.Ns mainGlobals mg) (c : He.SaysD fa fn K) (i : Nat) {st : Stmt} (hd : fn[i]? = some ⟨(x, none), x, x, defArgs st, defBody st, defScope st, [], []⟩) (j : Nat) (hj : fa[j]? = some (.glo x))
    (hc : (cSs 60 60 ⟨names, B, N, defScope st, Gs⟩ (defBody st)).map (·.val) = some body) (hs : FnScope N ps (defScope st)) (hp : ps.length = n)
    (hb : ∀ (kV doc pm : Value) (an : Option Addr) (cdv ct : Value) (us : List Value), us.length = ps.length → bindArgs (PySem.W.fnOf x x (defArgs st) (defBody st) (defScope st) .none kV doc pm an cdv ct) ⟨us, []⟩ = pure (ps.zip us)) : DefOk K mg names B Gs ⟨x, N, n, body⟩ := by
  obtain ⟨fd, F⟩ := c.def_ i (d := ⟨(x, none), x, x, defArgs st, defBody st, defScope st, [], []⟩) hd
  have hm := He.glo_ok X G (c.fact j (f := .glo x) hj)
  cases e : cSs 60 60 ⟨names, B, N, defScope st, Gs⟩ (defBody st) with
  | none => rw [e] at hc; cases hc
  | some r =>
    rw [e] at hc
    have hr : r.val = body := Option.some.inj hc
    exact ⟨_, fd, x, ps, _, _, _, hm, F, hs, hp, by
      rw [← hr]
      exact r.property, fun s us hl => FunD.bindsA F hb s us hl⟩
/-- the law's def: what the language says of it, for every script -/
theorem law_end {l : PySem.W.OpenLaw} {w : World} {K : Fg} {h : Heap} {mg : Str → Option Value} {T : List Fn} {names B : List Str} {Gs : List (Str × Gv)} {fa : Addr} {lawFn : Fn} {i k n : Nat} (KX : K.In h) (hn : T.map (·.name) = names) (hB : ∀ x ∈ B, mg x = none) (hG : ∀ x g, (x, g) ∈ Gs → GvOk K mg x g) (hT : ∀ fn ∈ T, DefOk K mg names B Gs fn)
    (hl : T[i]? = some lawFn) (hx : lawFn.N.take 1 = ([("script" : Str)] : List Str)) (hp : lawFn.ps = 1) (hmg : mg lawFn.name = some (.ref fa)) (hk : k + 1 ≤ 300) (hns : n ≤ sizeLine)
    (true_ : ∀ ns : List Int, ns.length ≤ n → ∃ S, orc T (k + 1) i [.fix (ns.map .int)] [] = .ok (.bl true) S) :
    ∃ (K : PySem.W.Frag) (fd : FuncData) (sp : Sp), K.In h ∧ (∀ (s : Shared) (u : Value), BindsTo s fd ⟨[u], []⟩ [(("script" : Str), u)]) ∧
        (∀ (H : Hp) (a : Addr) (ns : List Int), ns.length ≤ n → Only H → SqL K H a (ns.map V.int) → sp [.ref a] H (fun v _ => v = .bl true) fun _ _ _ => False) ∧
        ∀ base : Heap, K.In base → base.Ns mainGlobals mg → FnOk l.prog w K mg base CX0 (k + 1) fa fd ([("script" : Str)] : List Str) sp := by
  obtain ⟨f, fd, qual, ps, params, body, scope, h1, h2, h3, h4, h5, h6⟩ := (hT lawFn (List.mem_of_getElem? hl)).ex
  have ef : fa = f := by
    rw [hmg] at h1
    cases h1
    rfl
  subst ef
  have eps : ps = ([("script" : Str)] : List Str) := by
    have := h3.pre
    rw [h4, hp, hx] at this
    exact this.symm
  subst eps
  refine ⟨K, fd, spC K (orc T (k + 1)) i, KX, fun s u => h6 s [u] rfl, fun H a ns hl' hO hS => ?_, fun base _ _ => all_ok.step hn hB hG 0 k hk i lawFn hl fa fd qual _ params body scope h2 h3 h4 h5 (all_ok hn hB hG hT k (by omega))⟩
  have hf : Fix K H a (ns.map V.int) := by
    rcases hS with (q | ⟨o, q⟩) | q
    · rcases hO a with z | ⟨o, xs, z⟩
      · rw [z] at q; cases q
      · rw [z] at q; cases q
    · exact .inl ⟨o, q⟩
    · exact .inr q
  have hr : ∀ ns : List Int, RpA K [] H (ns.map D.int) (ns.map V.int) := fun ns => by
    induction ns with
    | nil => exact rfl
    | cons x xs ih => exact .cons rfl ih
  obtain ⟨S, hS'⟩ := true_ ns hl'
  refine ⟨[], [.fix (ns.map .int)], [], ⟨rfl, List.nodup_nil, fun i o a e _ => by simp at e⟩, .cons ⟨a, _, rfl, hf, hr ns, by rw [List.length_map]; omega⟩ .nil, ?_⟩
  rw [hS']
  exact fun μ' H' _ _ v rv => rv
end PQ

/-! What a run says, by what is asked of its end. -/
namespace PQ
open PySem PySem.Spec PyProof.Rows L2
/-- it ends well, and then .. -/
def W {α : Type} (r : Res α) (Q : α → Sto → Prop) : Prop := ∃ a S, r = .ok a S ∧ Q a S
section
variable {α β : Type} {Q : α → Sto → Prop} {a : α} {S : Sto}
@[simp] theorem W_ok : W (.ok a S) Q = Q a S := propext ⟨fun ⟨_, _, e, h⟩ => by cases e; exact h, fun h => ⟨_, _, rfl, h⟩⟩
@[simp] theorem W_bad : W (.bad : Res α) Q = False := propext ⟨fun ⟨_, _, e, _⟩ => (nomatch e), False.elim⟩
@[simp] theorem W_exc {c : Str} {fs : List (Str × D)} : W (.exc c fs S : Res α) Q = False := propext ⟨fun ⟨_, _, e, _⟩ => (nomatch e), False.elim⟩
@[simp] theorem W_bind {r : Res β} {f : β → Sto → Res α} : W (r.bind f) Q = W r fun b S => W (f b S) Q := by
  cases r with
  | ok b S => simp [Res.bind]
  | exc c fs S => simp [Res.bind]
  | bad => simp [Res.bind]
@[simp] theorem W_ask {p : Prop} {r : Res α} : W (ask p r) Q = (p ∧ W r Q) := by
  unfold ask
  split <;> rename_i h
  · exact propext ⟨fun x => ⟨h, x⟩, fun x => x.2⟩
  · rw [W_bad]
    exact propext ⟨False.elim, fun x => h x.1⟩
@[simp] theorem may_some {f : β → Res α} {b : β} : may (some b) f = f b := rfl
@[simp] theorem may_none {f : β → Res α} : may none f = .bad := rfl
theorem W_mono {Q' : α → Sto → Prop} {r : Res α} (h : W r Q) (k : ∀ a S, Q a S → Q' a S) : W r Q' := by
  obtain ⟨a, S, e, h⟩ := h
  exact ⟨a, S, e, k _ _ h⟩
theorem W_ite {c : Prop} [Decidable c] {r s : Res α} (h1 : c → W r Q) (h2 : ¬c → W s Q) : W (if c then r else s) Q := by
  split
  · exact h1 ‹_›
  · exact h2 ‹_›
end
/-- a walk: each turn goes on -/
theorem loopS_w {C : Sto → Prop} {f : D → En → Sto → Res Fl} {Q : Fl → Sto → Prop} (I : List D → En → Sto → Prop)
    (h : ∀ d ds ρ S, I (d :: ds) ρ S → C S ∧ W (f d ρ S) fun fl S' => (∃ ρ', (fl = .nx ρ' ∨ fl = .ct ρ') ∧ I ds ρ' S'))
    (h0 : ∀ ρ S, I [] ρ S → C S ∧ Q (.nx ρ) S) : ∀ ds ρ S, I ds ρ S → W (loopS C f ds ρ S) Q
  | [], ρ, S, i => by
    rw [loopS, W_ask, W_ok]
    exact h0 ρ S i
  | d :: ds, ρ, S, i => by
    rw [loopS, W_ask, W_bind]
    obtain ⟨k1, k2⟩ := h d ds ρ S i
    refine ⟨k1, W_mono k2 fun fl S' ⟨ρ', e, k⟩ => ?_⟩
    rcases e with e | e <;> subst e <;> exact loopS_w I h h0 ds ρ' S' k
/-- a comprehension without a test: each item makes one -/
theorem loopQ_w {C : Sto → Prop} {f : D → Sto → Res (Option D)} {Q : List D → Sto → Prop} (I : List D → List D → Sto → Prop)
    (h : ∀ d ds r S, I (d :: ds) r S → C S ∧ W (f d S) fun o S' => I ds (r ++ o.toList) S')
    (h0 : ∀ r S, I [] r S → C S ∧ Q r S) (ds : List D) (S : Sto) (i : I ds [] S) : W (loopQ C f ds S) Q := by
  suffices ∀ (ds r : List D) S, I ds r S → W (loopQ C f ds S) fun x S => Q (r ++ x) S by
    have := this ds [] S i
    simpa using this
  intro ds
  induction ds with
  | nil =>
    intro r S i
    rw [loopQ, W_ask, W_ok, List.append_nil]
    exact h0 r S i
  | cons d ds ih =>
    intro r S i
    rw [loopQ, W_ask, W_bind]
    obtain ⟨k1, k2⟩ := h d ds r S i
    refine ⟨k1, W_mono k2 fun o S' k => ?_⟩
    rw [W_bind]
    refine W_mono (ih _ _ k) fun x S'' q => ?_
    rw [W_ok]
    cases o with
    | none => simpa using q
    | some o => simpa using q
/-- what a def hands back -/
theorem callF_w {C : Orc} {fn : Fn} {ds : List D} {S : Sto} {Q : D → Sto → Prop} (hl : ds.length = fn.ps) (h : W (runB C fn ds S) fun d S' => W (gc S d S') Q) : W (callF C fn ds S) Q := by
  unfold callF
  rw [if_pos hl, W_bind]
  exact h
@[simp] theorem gc_self {S : Sto} {d : D} : gc S d S = .ok d S := by
  unfold gc
  split <;> simp
theorem gc_same {S S' : Sto} {d : D} (h : S'.length = S.length) : gc S d S' = .ok d S' := by
  unfold gc
  split
  · rw [← h, List.take_length]
  · rfl
/-- what stands anew behind the old store, and is not handed back, is forgotten -/
theorem gc_app {S g : Sto} {d : D} (h : below S.length d) : gc S d (S ++ g) = .ok d S := by
  unfold gc
  rw [if_pos]
  · simp
  · refine ⟨h, by simp, fun i o hi e => .inl ?_⟩
    rw [← e, List.getElem?_append_left hi]
end PQ

/-! One step of a run, by its syntax. -/
namespace PQ
open PySem PySem.Spec PyProof.Rows L2
variable {C : Orc} {ρ : En} {S : Sto}
theorem w_var {i : Nat} {d : D} {Q : D → Sto → Prop} (k : ρ[i]? = some (some d))(h : Q d S) : W (evE C (.var i) ρ S) Q := by
  simpa [evE, k] using h
theorem w_lit {d : D} {Q : D → Sto → Prop} (h : Q d S) : W (evE C (.lit d) ρ S) Q := by
  simpa [evE] using h
theorem w_tup {es : CEs} {Q : D → Sto → Prop} (h : W (evEs C es ρ S) fun ds S1 => ds.length ≤ sizeLine ∧ Q (.tup ds) S1) : W (evE C (.tup es) ρ S) Q := by
  simpa [evE] using h
theorem w_alloc {q : CQ} {Q : D → Sto → Prop} (h : W (evQ C q ρ S) fun ds S1 => Q (.ref S1.length) (S1 ++ [.lst ds])) : W (evE C (.alloc q) ρ S) Q := by
  simpa [evE] using h
theorem w_bin {o : Bop} {a b : CE} {Q : D → Sto → Prop} (h : W (evE C a ρ S) fun x S1 => W (evE C b ρ S1) fun y S2 => W (binD o x y S2) Q) : W (evE C (.bin o a b) ρ S) Q := by
  simpa [evE] using h
theorem w_cmp {o : Cop} {a b : CE} {Q : D → Sto → Prop} (h : W (evE C a ρ S) fun x S1 => W (evE C b ρ S1) fun y S2 => W (cmpD o x y S2) Q) : W (evE C (.cmp o a b) ρ S) Q := by
  simpa [evE] using h
noncomputable def chnK (C : Orc) (p : Cop) (c : CE) (ρ : En) (y : D) (z : D) (S3 : Sto) : Res D := match z with
  | .bl true => (evE C c ρ S3).bind fun w S4 => cmpD p y w S4
  | .bl false => .ok (.bl false) S3
  | _ => .bad
theorem w_chn {o p : Cop} {a b c : CE} {Q : D → Sto → Prop} (h : W (evE C a ρ S) fun x S1 => W (evE C b ρ S1) fun y S2 => W (cmpD o x y S2) fun z S3 => W (chnK C p c ρ y z S3) Q) : W (evE C (.chn o p a b c) ρ S) Q := by
  have e : evE C (.chn o p a b c) ρ S = (evE C a ρ S).bind fun x S1 => (evE C b ρ S1).bind fun y S2 => (cmpD o x y S2).bind fun z S3 => chnK C p c ρ y z S3 := rfl
  rw [e]
  simpa only [W_bind] using h
theorem w_chnB {p : Cop} {c : CE} {y : D} {k : Bool} {Q : D → Sto → Prop} (h1 : k = true → W (evE C c ρ S) fun w S4 => W (cmpD p y w S4) Q) (h2 : k = false → Q (.bl false) S) : W (chnK C p c ρ y (.bl k) S) Q := by
  cases k
  · exact (W_ok (Q := Q)).symm ▸ h2 rfl
  · show W (Res.bind _ _) _
    rw [W_bind]
    exact h1 rfl
theorem w_isN {a : CE} {Q : D → Sto → Prop} (h : W (evE C a ρ S) fun x S1 => Q (.bl (isNon x)) S1) : W (evE C (.isN a) ρ S) Q := by
  simpa [evE] using h
theorem w_notN {a : CE} {Q : D → Sto → Prop} (h : W (evE C a ρ S) fun x S1 => Q (.bl (!isNon x)) S1) : W (evE C (.notN a) ρ S) Q := by
  simpa [evE] using h
theorem w_inr {a : CE} {r : CR} {Q : D → Sto → Prop} (h : W (evE C a ρ S) fun x S1 => W (evR C r ρ S1) fun v S2 => W (may (inD x v S2) fun b => .ok (.bl b) S2) Q) : W (evE C (.inr a r) ρ S) Q := by
  simpa [evE] using h
theorem w_notInr {a : CE} {r : CR} {Q : D → Sto → Prop} (h : W (evE C a ρ S) fun x S1 => W (evR C r ρ S1) fun v S2 => W (may (inD x v S2) fun b => .ok (.bl (!b)) S2) Q) : W (evE C (.notInr a r) ρ S) Q := by
  simpa [evE] using h
theorem w_and {a b : CE} {Q : D → Sto → Prop} (h : W (evE C a ρ S) fun x S1 => W (may (tru S1 x) fun k => if k = true then evE C b ρ S1 else .ok x S1) Q) : W (evE C (.and a b) ρ S) Q := by
  simpa [evE] using h
theorem w_or {a b : CE} {Q : D → Sto → Prop} (h : W (evE C a ρ S) fun x S1 => W (may (tru S1 x) fun k => if k = true then .ok x S1 else evE C b ρ S1) Q) : W (evE C (.or a b) ρ S) Q := by
  simpa [evE] using h
theorem w_not {a : CE} {Q : D → Sto → Prop} (h : W (evE C a ρ S) fun x S1 => W (may (tru S1 x) fun k => .ok (.bl (!k)) S1) Q) : W (evE C (.not a) ρ S) Q := by
  simpa [evE] using h
theorem w_ife {t : CT} {a b : CE} {Q : D → Sto → Prop} (h : W (evT C t ρ S) fun k S1 => W (if k = true then evE C a ρ S1 else evE C b ρ S1) Q) : W (evE C (.ife t a b) ρ S) Q := by
  simpa [evE] using h
theorem w_idx {a b : CE} {Q : D → Sto → Prop} (h : W (evE C a ρ S) fun x S1 => W (evE C b ρ S1) fun y S2 => W (idxD x y S2) Q) : W (evE C (.idx a b) ρ S) Q := by
  simpa [evE] using h
theorem w_slc {a : CE} {lo hi : CO} {Q : D → Sto → Prop} (h : W (evE C a ρ S) fun x S1 => W (evO C lo ρ S1) fun l S2 => W (evO C hi ρ S2) fun u S3 => W (slcD x l u S3) Q) : W (evE C (.slc a lo hi) ρ S) Q := by
  simpa [evE] using h
theorem w_call {f : Nat} {es : CEs} {Q : D → Sto → Prop} (h : W (evEs C es ρ S) fun ds S1 => W (C f ds S1) Q) : W (evE C (.call f es) ρ S) Q := by
  simpa [evE] using h
theorem w_fn1 {f : F1} {a : CE} {Q : D → Sto → Prop} (h : W (evE C a ρ S) fun x S1 => W (fn1D f x S1) Q) : W (evE C (.fn1 f a) ρ S) Q := by
  simpa [evE] using h
theorem w_fn2 {f : F2} {a b : CE} {Q : D → Sto → Prop} (h : W (evE C a ρ S) fun x S1 => W (evE C b ρ S1) fun y S2 => W (fn2D f x y S2) Q) : W (evE C (.fn2 f a b) ρ S) Q := by
  simpa [evE] using h
theorem w_agg {f : Ag} {r : CR} {Q : D → Sto → Prop} (h : W (evR C r ρ S) fun v S1 => W (aggD f v S1) Q) : W (evE C (.agg f r) ρ S) Q := by
  simpa [evE] using h
theorem w_isi {a : CE} {t : Ty} {Q : D → Sto → Prop} (h : W (evE C a ρ S) fun x S1 => W (may (tyB t S1 x) fun b => .ok (.bl b) S1) Q) : W (evE C (.isi a t) ρ S) Q := by
  simpa [evE] using h
theorem w_app {l x : CE} {Q : D → Sto → Prop} (h : W (evE C l ρ S) fun o S1 => W (withL S1 o fun _ _ => (evE C x ρ S1).bind fun v S2 => appD o v S2) Q) : W (evE C (.app l x) ρ S) Q := by
  simpa [evE] using h
theorem w_ext {l : CE} {r : CR} {Q : D → Sto → Prop} (h : W (evE C l ρ S) fun o S1 => W (withL S1 o fun _ _ => (evR C r ρ S1).bind fun v S2 => extD o v S2) Q) : W (evE C (.ext l r) ρ S) Q := by
  simpa [evE] using h
theorem w_pop {l : CE} {Q : D → Sto → Prop} (h : W (evE C l ρ S) fun o S1 => W (popD o S1) Q) : W (evE C (.pop l) ρ S) Q := by
  simpa [evE] using h
theorem w_popAt {l i : CE} {Q : D → Sto → Prop} (h : W (evE C l ρ S) fun o S1 => W (withL S1 o fun _ _ => (evE C i ρ S1).bind fun v S2 => popAtD o v S2) Q) : W (evE C (.popAt l i) ρ S) Q := by
  simpa [evE] using h
theorem w_join {s : Str} {r : CR} {Q : D → Sto → Prop} (h : W (evR C r ρ S) fun v S1 => W (may (sqOf S1 v) fun ds => may (strsOf ds) fun ys => ask ((ys.map (·.length)).sum + ys.length * s.length ≤ 16777216) (.ok (.str (Txt.join s ys)) S1)) Q) : W (evE C (.join s r) ρ S) Q := by
  simpa [evE] using h
theorem w_neg {a : CE} {Q : D → Sto → Prop} (h : W (evE C a ρ S) fun x S1 => ∃ i, x = .int i ∧ Q (.int (-i)) S1) : W (evE C (.neg a) ρ S) Q := by
  simp only [evE, W_bind]
  refine W_mono h fun x S1 ⟨i, e, k⟩ => ?_
  subst e
  simpa using k
theorem w_oN {Q : Option Int → Sto → Prop} (h : Q none S) : W (evO C (.none) ρ S) Q := by
  simpa [evO] using h
theorem w_oS {a : CE} {Q : Option Int → Sto → Prop} (h : W (evE C a ρ S) fun x S1 => ∃ i, x = .int i ∧ Q (some i) S1) : W (evO C (.some a) ρ S) Q := by
  simp only [evO, W_bind]
  refine W_mono h fun x S1 ⟨i, e, k⟩ => ?_
  subst e
  simpa using k
theorem w_nil {Q : List D → Sto → Prop} (h : Q [] S) : W (evEs C (.nil) ρ S) Q := by
  simpa [evEs] using h
theorem w_cons {a : CE} {r : CEs} {Q : List D → Sto → Prop} (h : W (evE C a ρ S) fun d S1 => W (evEs C r ρ S1) fun ds S2 => Q (d :: ds) S2) : W (evEs C (.cons a r) ρ S) Q := by
  simpa [evEs] using h
theorem w_disp {es : CEs} {Q : List D → Sto → Prop} (h : W (evEs C es ρ S) fun ds S1 => ds.length ≤ sizeLine ∧ Q ds S1) : W (evQ C (.disp es) ρ S) Q := by
  simpa [evQ] using h
theorem w_comp {own : List Nat} {g : CN} {it : CI} {elt : CE} {Q : List D → Sto → Prop} (h : W (evI C it ρ S) fun t S1 => t.items.length ≤ sizeLine ∧ W (loopQ t.still (fun d S2 => may (bindN g d (wipeE ρ own) S2) fun ρ' => (evE C elt ρ' S2).bind fun x S3 => .ok (some x) S3) t.items S1) Q) : W (evQ C (.comp own g it elt) ρ S) Q := by
  simpa [evQ] using h
theorem w_compIf {own : List Nat} {g : CN} {it : CI} {c : CT} {elt : CE} {Q : List D → Sto → Prop} (h : W (evI C it ρ S) fun t S1 => t.items.length ≤ sizeLine ∧ W (loopQ t.still (fun d S2 => may (bindN g d (wipeE ρ own) S2) fun ρ' => (evT C c ρ' S2).bind fun k S3 => if k = true then (evE C elt ρ' S3).bind fun x S4 => .ok (some x) S4 else .ok none S3) t.items S1) Q) : W (evQ C (.compIf own g it c elt) ρ S) Q := by
  simpa [evQ] using h
theorem w_cat {a b : CR} {Q : List D → Sto → Prop} (h : W (evR C a ρ S) fun v S1 => W (evR C b ρ S1) fun w S2 => W (may (trOf S2 v) fun x => may (trOf S2 w) fun y => ask (x.length + y.length ≤ sizeLine) (.ok (x ++ y) S2)) Q) : W (evQ C (.cat a b) ρ S) Q := by
  simpa [evQ] using h
theorem w_sorted {r : CR} {Q : List D → Sto → Prop} (h : W (evR C r ρ S) fun v S1 => W (may (lsOf S1 v) fun ds => sortD S1 ds) Q) : W (evQ C (.sorted r) ρ S) Q := by
  simpa [evQ] using h
theorem w_list {r : CR} {Q : List D → Sto → Prop} (h : W (evR C r ρ S) fun v S1 => W (may (lstOf S1 v) fun ds => .ok ds S1) Q) : W (evQ C (.list r) ρ S) Q := by
  simpa [evQ] using h
theorem w_rev {r : CR} {Q : List D → Sto → Prop} (h : W (evR C r ρ S) fun v S1 => W (may (lsOf S1 v) fun ds => .ok ds.reverse S1) Q) : W (evQ C (.rev r) ρ S) Q := by
  simpa [evQ] using h
theorem w_listRg {a b : CE} {Q : List D → Sto → Prop} (h : W (evE C a ρ S) fun x S1 => W (evE C b ρ S1) fun y S2 => ∃ i j, x = .int i ∧ y = .int j ∧ RgOk i j ∧ Q (rgD i j) S2) : W (evQ C (.listRg a b) ρ S) Q := by
  simp only [evQ, W_bind]
  refine W_mono h fun x S1 h => W_mono h fun y S2 ⟨i, j, e1, e2, k⟩ => ?_
  subst e1 e2
  simpa using k
theorem w_q {c : CQ} {Q : RV → Sto → Prop} (h : W (evQ C c ρ S) fun ds S1 => Q (.own ds) S1) : W (evR C (.q c) ρ S) Q := by
  simpa [evR] using h
theorem w_e {c : CE} {Q : RV → Sto → Prop} (h : W (evE C c ρ S) fun d S1 => Q (.val d) S1) : W (evR C (.e c) ρ S) Q := by
  simpa [evR] using h
theorem w_ir {c : CR} {Q : Itv → Sto → Prop} (h : W (evR C c ρ S) fun v S1 => W (may (itOf v S1) fun t => .ok t S1) Q) : W (evI C (.r c) ρ S) Q := by
  simpa [evI] using h
theorem w_rg {a b : CE} {Q : Itv → Sto → Prop} (h : W (evE C a ρ S) fun x S1 => W (evE C b ρ S1) fun y S2 => ∃ i j, x = .int i ∧ y = .int j ∧ (bd62 i ∧ bd62 j) ∧ Q ⟨rgD i j, none⟩ S2) : W (evI C (.rg a b) ρ S) Q := by
  simp only [evI, W_bind]
  refine W_mono h fun x S1 h => W_mono h fun y S2 ⟨i, j, e1, e2, k⟩ => ?_
  subst e1 e2
  simpa using k
theorem w_tv {e : CE} {Q : Bool → Sto → Prop} (h : W (evE C e ρ S) fun x S1 => W (may (tru S1 x) fun k => .ok k S1) Q) : W (evT C (.v e) ρ S) Q := by
  simpa [evT] using h
theorem w_tand {a b : CT} {Q : Bool → Sto → Prop} (h : W (evT C a ρ S) fun k S1 => W (if k = true then evT C b ρ S1 else .ok false S1) Q) : W (evT C (.and a b) ρ S) Q := by
  simpa [evT] using h
theorem w_tor {a b : CT} {Q : Bool → Sto → Prop} (h : W (evT C a ρ S) fun k S1 => W (if k = true then .ok true S1 else evT C b ρ S1) Q) : W (evT C (.or a b) ρ S) Q := by
  simpa [evT] using h
theorem w_tnot {a : CT} {Q : Bool → Sto → Prop} (h : W (evT C a ρ S) fun k S1 => Q (!k) S1) : W (evT C (.not a) ρ S) Q := by
  simpa [evT] using h
theorem w_set {i : Nat} {e : CE} {Q : Fl → Sto → Prop} (h : W (evE C e ρ S) fun d S1 => Q (.nx (ρ.set i (some d))) S1) : W (evS C (.set (.nm i) e) ρ S) Q := by
  simpa [evS, bindN] using h
theorem w_setT {is : List Nat} {e : CE} {Q : Fl → Sto → Prop} (h : W (evE C e ρ S) fun d S1 => W (may (bindN (.tup is) d ρ S1) fun ρ' => .ok (.nx ρ') S1) Q) : W (evS C (.set (.tup is) e) ρ S) Q := by
  simpa [evS] using h
theorem w_par {i j : Nat} {a b : CE} {Q : Fl → Sto → Prop} (h : W (evE C a ρ S) fun x S1 => W (evE C b ρ S1) fun y S2 => Q (.nx ((ρ.set i (some x)).set j (some y))) S2) : W (evS C (.par i j a b) ρ S) Q := by
  simpa [evS] using h
theorem w_sub {o i e : CE} {Q : Fl → Sto → Prop} (h : W (evE C e ρ S) fun d S1 => W (evE C o ρ S1) fun x S2 => W (evE C i ρ S2) fun y S3 => W (setD x y d S3) fun _ S4 => Q (.nx ρ) S4) : W (evS C (.sub o i e) ρ S) Q := by
  simpa [evS] using h
theorem w_aug {i : Nat} {p : Bop} {e : CE} {d : D} {Q : Fl → Sto → Prop} (k : ρ[i]? = some (some d))(h : W (evE C e ρ S) fun y S1 => W (augD p d y S1) fun z S2 => Q (.nx (ρ.set i (some z))) S2) : W (evS C (.aug i p e) ρ S) Q := by
  simpa [evS, k] using h
def augK (C : Orc) (ρ : En) (p : Bop) (e : CE) (x y : D) (S2 : Sto) (Q : Fl → Sto → Prop) : Prop := ∃ a ds j v, x = .ref a ∧ S2[a]? = some (.lst ds) ∧ y = .int j ∧ atI ds j = some v ∧ W (evE C e ρ S2) fun w S4 => W (augD p v w S4) fun z S5 => W (setD (.ref a) (.int j) z S5) fun _ S6 => Q (.nx ρ) S6
theorem w_augS {o i e : CE} {p : Bop} {Q : Fl → Sto → Prop} (h : W (evE C o ρ S) fun x S1 => W (evE C i ρ S1) fun y S2 => augK C ρ p e x y S2 Q) : W (evS C (.augS o i p e) ρ S) Q := by
  simp only [evS, W_bind]
  refine W_mono h fun x S1 h => W_mono h fun y S2 ⟨a, ds, j, v, e1, e2, e3, e4, k⟩ => ?_
  subst e1 e3
  simpa [withL, e2, e4] using k
theorem w_augK {e : CE} {p : Bop} {Q : Fl → Sto → Prop} {a : Nat} {ds : List D} {j : Int} {v : D} (k1 : S[a]? = some (.lst ds)) (k2 : atI ds j = some v) (h : W (evE C e ρ S) fun w S4 => W (augD p v w S4) fun z S5 => W (setD (.ref a) (.int j) z S5) fun _ S6 => Q (.nx ρ) S6) : augK C ρ p e (.ref a) (.int j) S Q := ⟨a, ds, j, v, rfl, k1, rfl, k2, h⟩
theorem w_ex {e : CE} {Q : Fl → Sto → Prop} (h : W (evE C e ρ S) fun _ S1 => Q (.nx ρ) S1) : W (evS C (.ex e) ρ S) Q := by
  simpa [evS] using h
theorem w_ret {e : CE} {Q : Fl → Sto → Prop} (h : W (evE C e ρ S) fun d S1 => Q (.rt d) S1) : W (evS C (.ret e) ρ S) Q := by
  simpa [evS] using h
theorem w_ite {t : CT} {a b : CSs} {Q : Fl → Sto → Prop} (h : W (evT C t ρ S) fun k S1 => W (if k = true then evSs C a ρ S1 else evSs C b ρ S1) Q) : W (evS C (.ite t a b) ρ S) Q := by
  simpa [evS] using h
theorem w_for {g : CN} {it : CI} {b : CSs} {Q : Fl → Sto → Prop} (h : W (evI C it ρ S) fun t S1 => W (loopS t.still (fun d ρ1 S2 => may (bindN g d ρ1 S2) fun ρ2 => evSs C b ρ2 S2) t.items ρ S1) Q) : W (evS C (.for g it b) ρ S) Q := by
  simpa [evS] using h
theorem w_while {t : CT} {b : CSs} {Q : Fl → Sto → Prop} (h : W (whileS (evT C t) (evSs C b) turns ρ S) Q) : W (evS C (.while t b) ρ S) Q := by
  simpa [evS] using h
theorem w_brk {Q : Fl → Sto → Prop} (h : Q (.bk ρ) S) : W (evS C (.brk) ρ S) Q := by
  simpa [evS] using h
theorem w_cont {Q : Fl → Sto → Prop} (h : Q (.ct ρ) S) : W (evS C (.cont) ρ S) Q := by
  simpa [evS] using h
theorem w_pass {Q : Fl → Sto → Prop} (h : Q (.nx ρ) S) : W (evS C (.pass) ρ S) Q := by
  simpa [evS] using h
theorem w_snil {Q : Fl → Sto → Prop} (h : Q (.nx ρ) S) : W (evSs C (.nil) ρ S) Q := by
  simpa [evSs] using h
noncomputable def seqK (C : Orc) (r : CSs) (fl : Fl) (S1 : Sto) : Res Fl := match fl with
  | .nx ρ' => evSs C r ρ' S1
  | f => .ok f S1
theorem w_scons {s : CS} {r : CSs} {Q : Fl → Sto → Prop} (h : W (evS C s ρ S) fun fl S1 => W (seqK C r fl S1) Q) : W (evSs C (.cons s r) ρ S) Q := by
  have e : evSs C (.cons s r) ρ S = (evS C s ρ S).bind fun fl S1 => seqK C r fl S1 := rfl
  rw [e, W_bind]
  exact h
theorem w_nx {r : CSs} {Q : Fl → Sto → Prop} (h : W (evSs C r ρ S) Q) : W (seqK C r (.nx ρ) S) Q := h
theorem w_rt {r : CSs} {d : D} {Q : Fl → Sto → Prop} (h : Q (.rt d) S) : W (seqK C r (.rt d) S) Q := w_mk h where
  w_mk {fl : Fl} (h : Q fl S) : W (.ok fl S) Q := (W_ok (Q := Q)).symm ▸ h
theorem w_bk {r : CSs} {Q : Fl → Sto → Prop} (h : Q (.bk ρ) S) : W (seqK C r (.bk ρ) S) Q := (W_ok (Q := Q)).symm ▸ h
theorem w_ct {r : CSs} {Q : Fl → Sto → Prop} (h : Q (.ct ρ) S) : W (seqK C r (.ct ρ) S) Q := (W_ok (Q := Q)).symm ▸ h
theorem v_add {i j : Int} {Q : D → Sto → Prop} (h : Q (.int (i + j)) S) : W (binD .add (.int i) (.int j) S) Q := by
  simpa [binD] using h
theorem v_sub {i j : Int} {Q : D → Sto → Prop} (h : Q (.int (i - j)) S) : W (binD .sub (.int i) (.int j) S) Q := by
  simpa [binD] using h
theorem v_band {i j : Int} {Q : D → Sto → Prop} (h : Q (.int (Builtin.bitAnd i j)) S) : W (binD .band (.int i) (.int j) S) Q := by
  simpa [binD] using h
theorem v_bor {i j : Int} {Q : D → Sto → Prop} (h : Q (.int (Builtin.bitOr i j)) S) : W (binD .bor (.int i) (.int j) S) Q := by
  simpa [binD] using h
theorem v_bxor {i j : Int} {Q : D → Sto → Prop} (h : Q (.int (Builtin.bitXor i j)) S) : W (binD .bxor (.int i) (.int j) S) Q := by
  simpa [binD] using h
theorem v_mul {i j : Int} {Q : D → Sto → Prop} (k : IntMulOk i j) (h : Q (.int (i * j)) S) : W (binD .mul (.int i) (.int j) S) Q := by
  simpa [binD, k] using h
theorem v_fdiv {i j : Int} {Q : D → Sto → Prop} (k : FDivOk i j) (h : Q (.int (i.fdiv j)) S) : W (binD .fdiv (.int i) (.int j) S) Q := by
  simpa [binD, k] using h
theorem v_mod {i j : Int} {Q : D → Sto → Prop} (k : j ≠ 0) (h : Q (.int (i.fmod j)) S) : W (binD .mod (.int i) (.int j) S) Q := by
  simpa [binD, k] using h
theorem v_pow {i j : Int} {Q : D → Sto → Prop} (k : CPow i j) (h : Q (.int (i ^ j.toNat)) S) : W (binD .pow (.int i) (.int j) S) Q := by
  simpa [binD, k] using h
theorem v_shl {i j : Int} {Q : D → Sto → Prop} (k : CPow i j) (h : Q (.int (i * 2 ^ j.toNat)) S) : W (binD .shl (.int i) (.int j) S) Q := by
  simpa [binD, k] using h
theorem v_shr {i j : Int} {Q : D → Sto → Prop} (k : 0 ≤ j) (h : Q (.int (i / 2 ^ j.toNat)) S) : W (binD .shr (.int i) (.int j) S) Q := by
  simpa [binD, k] using h
theorem v_addT {a b : List D} {Q : D → Sto → Prop} (k : a.length + b.length ≤ sizeLine) (h : Q (.tup (a ++ b)) S) : W (binD .add (.tup a) (.tup b) S) Q := by
  simpa [binD, k] using h
theorem v_addS {a b : Str} {Q : D → Sto → Prop} (k : a.length + b.length ≤ sizeLine) (h : Q (.str (a ++ b)) S) : W (binD .add (.str a) (.str b) S) Q := by
  simpa [binD, k] using h
theorem v_addL {i j : Nat} {a b : List D} {Q : D → Sto → Prop} (k1 : S[i]? = some (.lst a)) (k2 : S[j]? = some (.lst b)) (k : a.length + b.length ≤ sizeLine) (h : Q (.ref S.length) (S ++ [.lst (a ++ b)])) : W (binD .add (.ref i) (.ref j) S) Q := by
  simpa [binD, k, k1, k2] using h
theorem v_augAdd {i j : Int} {Q : D → Sto → Prop} (h : Q (.int (i + j)) S) : W (augD .add (.int i) (.int j) S) Q := by
  simpa [augD] using h
theorem v_augSub {i j : Int} {Q : D → Sto → Prop} (h : Q (.int (i - j)) S) : W (augD .sub (.int i) (.int j) S) Q := by
  simpa [augD] using h
theorem v_lt {i j : Int} {Q : D → Sto → Prop} (h : Q (.bl (decide (i < j))) S) : W (cmpD .lt (.int i) (.int j) S) Q := by
  simpa [cmpD, cmpI] using h
theorem v_le {i j : Int} {Q : D → Sto → Prop} (h : Q (.bl (decide (i ≤ j))) S) : W (cmpD .le (.int i) (.int j) S) Q := by
  simpa [cmpD, cmpI] using h
theorem v_gt {i j : Int} {Q : D → Sto → Prop} (h : Q (.bl (decide (j < i))) S) : W (cmpD .gt (.int i) (.int j) S) Q := by
  simpa [cmpD, cmpI] using h
theorem v_ge {i j : Int} {Q : D → Sto → Prop} (h : Q (.bl (decide (j ≤ i))) S) : W (cmpD .ge (.int i) (.int j) S) Q := by
  simpa [cmpD, cmpI] using h
theorem v_eq {i j : Int} {Q : D → Sto → Prop} (h : Q (.bl (decide (i = j))) S) : W (cmpD .eq (.int i) (.int j) S) Q := by
  simpa [cmpD, dEq, scalD, eqSc] using h
theorem v_ne {i j : Int} {Q : D → Sto → Prop} (h : Q (.bl (!decide (i = j))) S) : W (cmpD .ne (.int i) (.int j) S) Q := by
  simpa [cmpD, dEq, scalD, eqSc] using h
theorem v_eqS {i j : Str} {Q : D → Sto → Prop} (h : Q (.bl (decide (i = j))) S) : W (cmpD .eq (.str i) (.str j) S) Q := by
  simpa [cmpD, dEq, scalD, eqSc] using h
theorem v_neS {i j : Str} {Q : D → Sto → Prop} (h : Q (.bl (!decide (i = j))) S) : W (cmpD .ne (.str i) (.str j) S) Q := by
  simpa [cmpD, dEq, scalD, eqSc] using h
theorem v_eqB {i j : Bool} {Q : D → Sto → Prop} (h : Q (.bl (decide (i = j))) S) : W (cmpD .eq (.bl i) (.bl j) S) Q := by
  simpa [cmpD, dEq, scalD, eqSc] using h
theorem v_intI {i : Int} {Q : D → Sto → Prop} (h : Q (.int i) S) : W (fn1D .int (.int i) S) Q := by
  simpa [fn1D] using h
theorem v_intB {b : Bool} {Q : D → Sto → Prop} (h : Q (.int (if b = true then 1 else 0)) S) : W (fn1D .int (.bl b) S) Q := by
  simpa [fn1D] using h
theorem v_abs {i : Int} {Q : D → Sto → Prop} (h : Q (.int (if i < 0 then -i else i)) S) : W (fn1D .abs (.int i) S) Q := by
  simpa [fn1D] using h
theorem v_str {i : Int} {Q : D → Sto → Prop} (k : i.natAbs.log2 < 1920) (h : Q (.str (toString i)) S) : W (fn1D .str (.int i) S) Q := by
  simpa [fn1D, k] using h
theorem v_gcd {i j : Int} {Q : D → Sto → Prop} (h : Q (.int ((Nat.gcd i.natAbs j.natAbs : Nat) : Int)) S) : W (fn2D .gcd (.int i) (.int j) S) Q := by
  simpa [fn2D] using h
theorem v_min2 {i j : Int} {Q : D → Sto → Prop} (h : Q (.int (if j < i then j else i)) S) : W (fn2D .min (.int i) (.int j) S) Q := by
  simpa [fn2D] using h
theorem v_max2 {i j : Int} {Q : D → Sto → Prop} (h : Q (.int (if j > i then j else i)) S) : W (fn2D .max (.int i) (.int j) S) Q := by
  simpa [fn2D] using h
theorem v_idx {a : Nat} {ds : List D} {i : Int} {d : D} {Q : D → Sto → Prop} (k1 : S[a]? = some (.lst ds)) (k2 : atI ds i = some d) (h : Q d S) : W (idxD (.ref a) (.int i) S) Q := by
  simpa [idxD, k1, k2] using h
theorem v_idxT {ds : List D} {i : Int} {d : D} {Q : D → Sto → Prop} (k2 : atI ds i = some d) (h : Q d S) : W (idxD (.tup ds) (.int i) S) Q := by
  simpa [idxD, k2] using h
theorem v_idxF {ds : List D} {i : Int} {d : D} {Q : D → Sto → Prop} (k2 : atI ds i = some d) (h : Q d S) : W (idxD (.fix ds) (.int i) S) Q := by
  simpa [idxD, k2] using h
theorem v_slc {a : Nat} {ds : List D} {lo hi : Option Int} {Q : D → Sto → Prop} (k1 : S[a]? = some (.lst ds)) (h : Q (.ref S.length) (S ++ [.lst (cutD ds lo hi)])) : W (slcD (.ref a) lo hi S) Q := by
  simpa [slcD, k1] using h
theorem v_slcT {ds : List D} {lo hi : Option Int} {Q : D → Sto → Prop} (h : Q (.tup (cutD ds lo hi)) S) : W (slcD (.tup ds) lo hi S) Q := by
  simpa [slcD] using h
theorem v_app {a : Nat} {ds : List D} {v : D} {Q : D → Sto → Prop} (k1 : S[a]? = some (.lst ds)) (k2 : ds.length < sizeLine) (h : Q .non (S.set a (.lst (ds ++ [v])))) : W (appD (.ref a) v S) Q := by
  simpa [appD, withL, k1, k2] using h
theorem v_len {v : RV} {ds : List D} {Q : D → Sto → Prop} (k : sqOf S v = some ds) (h : Q (.int ds.length) S) : W (aggD .len v S) Q := by
  have e : aggD .len v S = .ok (.int ds.length) S := by
    cases v with
    | own xs =>
      have e : aggD .len (.own xs) S = may (sqOf S (.own xs)) fun ds => .ok (.int ds.length) S := rfl
      rw [e, k]
      rfl
    | val d =>
      cases d with
      | str z => simp [sqOf, lsOf] at k
      | non => simp [sqOf, lsOf] at k
      | bl z => simp [sqOf, lsOf] at k
      | int z => simp [sqOf, lsOf] at k
      | tup z =>
        have e : aggD .len (.val (.tup z)) S = may (sqOf S (.val (.tup z))) fun ds => .ok (.int ds.length) S := rfl
        rw [e, k]
        rfl
      | fix z =>
        have e : aggD .len (.val (.fix z)) S = may (sqOf S (.val (.fix z))) fun ds => .ok (.int ds.length) S := rfl
        rw [e, k]
        rfl
      | ref z =>
        have e : aggD .len (.val (.ref z)) S = may (sqOf S (.val (.ref z))) fun ds => .ok (.int ds.length) S := rfl
        rw [e, k]
        rfl
  rw [e, W_ok]
  exact h
theorem v_tuple {v : RV} {ds : List D} {Q : D → Sto → Prop} (k : sqOf S v = some ds) (h : Q (.tup ds) S) : W (aggD .tuple v S) Q := by
  simpa [aggD, k] using h
theorem v_sum {v : RV} {ds : List D} {ns : List Int} {Q : D → Sto → Prop} (k : lsOf S v = some ds) (k2 : intsOf ds = some ns) (h : Q (.int ns.sum) S) : W (aggD .sum v S) Q := by
  simpa [aggD, k, k2] using h
theorem v_all {v : RV} {ds : List D} {bs : List Bool} {Q : D → Sto → Prop} (k : lsOf S v = some ds) (k2 : boolsOf ds = some bs) (h : Q (.bl (bs.all id)) S) : W (aggD .all v S) Q := by
  simpa [aggD, k, k2] using h
theorem v_any {v : RV} {ds : List D} {bs : List Bool} {Q : D → Sto → Prop} (k : lsOf S v = some ds) (k2 : boolsOf ds = some bs) (h : Q (.bl (bs.any id)) S) : W (aggD .any v S) Q := by
  simpa [aggD, k, k2] using h
theorem v_max {v : RV} {ds : List D} {ns : List Int} {m : Int} {Q : D → Sto → Prop} (k : lsOf S v = some ds) (k2 : intsOf ds = some ns) (k3 : greatest ns = some m) (h : Q (.int m) S) : W (aggD .max v S) Q := by
  simpa [aggD, k, k2, k3] using h
theorem v_min {v : RV} {ds : List D} {ns : List Int} {m : Int} {Q : D → Sto → Prop} (k : lsOf S v = some ds) (k2 : intsOf ds = some ns) (k3 : least ns = some m) (h : Q (.int m) S) : W (aggD .min v S) Q := by
  simpa [aggD, k, k2, k3] using h
theorem v_set {a : Nat} {ds : List D} {i : Int} {j : Nat} {v : D} {Q : Unit → Sto → Prop} (k1 : S[a]? = some (.lst ds)) (k2 : ixN ds.length i = some j) (h : Q () (S.set a (.lst (ds.set j v)))) : W (setD (.ref a) (.int i) v S) Q := by
  simpa [setD, withL, k1, k2] using h
section
variable {α β : Type} {Q : α → Sto → Prop}
theorem w_may {o : Option β} {f : β → Res α} {b : β} (k : o = some b) (h : W (f b) Q) : W (may o f) Q := by
  rw [k, may_some]
  exact h
theorem w_ask {p : Prop} {r : Res α} (k : p) (h : W r Q) : W (ask p r) Q := by
  rw [W_ask]
  exact ⟨k, h⟩
theorem w_ok {a : α} (h : Q a S) : W (.ok a S) Q := by
  rw [W_ok]
  exact h
theorem w_bind {r : Res β} {f : β → Sto → Res α} (h : W r fun b S => W (f b S) Q) : W (r.bind f) Q := by
  rw [W_bind]
  exact h
theorem w_withL {a : Nat} {ds : List D} {f : Nat → List D → Res α} (k : S[a]? = some (.lst ds)) (h : W (f a ds) Q) : W (withL S (.ref a) f) Q := by
  simpa [withL, k] using h
theorem w_if {k : Bool} {A B : Res α} (h1 : k = true → W A Q) (h2 : k = false → W B Q) : W (if k = true then A else B) Q := by
  cases k
  · exact h2 rfl
  · exact h1 rfl
theorem w_ifd {p : Prop} {_ : Decidable p} {A B : Res α} (h1 : p → W A Q) (h2 : ¬p → W B Q) : W (if decide p = true then A else B) Q := w_if (fun h => h1 (of_decide_eq_true h)) fun h => h2 (of_decide_eq_false h)
theorem w_if_T {k : Bool} {A B : Res α} (hk : k = true) (h : W A Q) : W (if k = true then A else B) Q := by
  subst hk
  exact h
theorem w_if_F {k : Bool} {A B : Res α} (hk : k = false) (h : W B Q) : W (if k = true then A else B) Q := by
  subst hk
  exact h
theorem w_if_t {A B : Res α} (h : W A Q) : W (if true = true then A else B) Q := h
theorem w_if_f {A B : Res α} (h : W B Q) : W (if false = true then A else B) Q := h
theorem w_if_nt {A B : Res α} (h : W B Q) : W (if (!true) = true then A else B) Q := h
theorem w_if_nf {A B : Res α} (h : W A Q) : W (if (!false) = true then A else B) Q := h
theorem w_tru_b {b : Bool} {f : Bool → Res α} (h : W (f b) Q) : W (may (tru S (.bl b)) f) Q := h
theorem w_tru_i {i : Int} {f : Bool → Res α} (h : W (f (i != 0)) Q) : W (may (tru S (.int i)) f) Q := h
theorem w_tru_t {ds : List D} {f : Bool → Res α} (h : W (f (!ds.isEmpty)) Q) : W (may (tru S (.tup ds)) f) Q := h
theorem w_tru_r {i : Nat} {ds : List D} {f : Bool → Res α} (k : S[i]? = some (.lst ds)) (h : W (f (!ds.isEmpty)) Q) : W (may (tru S (.ref i)) f) Q := by
  simpa [tru, k] using h
end
/-- a body's end -/
noncomputable def retK (fl : Fl) (S : Sto) : Res D := match fl with
  | .nx _ => .ok .non S
  | .rt d => .ok d S
  | _ => .bad
theorem r_nx {Q : D → Sto → Prop} (h : Q .non S) : W (retK (.nx ρ) S) Q := (W_ok (Q := Q)).symm ▸ h
theorem r_rt {d : D} {Q : D → Sto → Prop} (h : Q d S) : W (retK (.rt d) S) Q := (W_ok (Q := Q)).symm ▸ h
/-- what a def hands back, its names laid out -/
theorem def_w {fn : Fn} {ds : List D} {ρ : En} {Q : D → Sto → Prop} (hl : ds.length = fn.ps) (hN : startE fn.N.length ds = ρ) (h : W (evSs C fn.body ρ S) fun fl S1 => W (retK fl S1) fun d S' => W (gc S d S') Q) : W (callF C fn ds S) Q := by
  subst hN
  refine callF_w hl ?_
  have e : runB C fn ds S = (evSs C fn.body (startE fn.N.length ds) S).bind fun fl S' => retK fl S' := rfl
  rw [e, W_bind]
  exact h
theorem orc_w {T : List Fn} {k f : Nat} {fn : Fn} {ds : List D} {ρ : En} {Q : D → Sto → Prop} (hf : T[f]? = some fn) (hl : ds.length = fn.ps) (hN : startE fn.N.length ds = ρ) (h : W (evSs (orc T k) fn.body ρ S) fun fl S1 => W (retK fl S1) fun d S' => W (gc S d S') Q) : W (orc T (k + 1) f ds S) Q := by
  have e : orc T (k + 1) f ds S = callF (orc T k) fn ds S := by
    show (match T[f]? with
      | some fn => callF (orc T k) fn ds S
      | none => Res.bad) = _
    rw [hf]
  rw [e]
  exact def_w hl hN h
theorem g_self {d : D} {Q : D → Sto → Prop} (h : Q d S) : W (gc S d S) Q := by
  rw [gc_self, W_ok]
  exact h
end PQ

namespace PQ
open PySem PySem.Spec PyProof.Rows L2
local macro_rules
  | `(tactic| mul_fits) => `(tactic| (repeat (first
    | (with_reducible refine PQ.w_scons ?_)
    | ((with_reducible apply PQ.w_var); (focus (exact rfl)))
    | (with_reducible refine PQ.w_bin ?_)
    | (with_reducible refine PQ.w_call ?_)
    | (with_reducible refine PQ.w_cons ?_)
    | (with_reducible refine PQ.w_nil ?_)
    | (with_reducible refine PQ.w_lit ?_)
    | (with_reducible refine PQ.w_cmp ?_)
    | (with_reducible refine PQ.w_idx ?_)
    | (with_reducible refine PQ.w_set ?_)
    | (with_reducible refine PQ.w_ret ?_)
    | (with_reducible refine PQ.w_ite ?_)
    | (with_reducible refine PQ.w_tv ?_)
    | (with_reducible refine PQ.w_tnot ?_)
    | (with_reducible refine PQ.w_nx ?_)
    | (with_reducible refine PQ.w_rt ?_)
    | (with_reducible refine PQ.w_if_t ?_)
    | (with_reducible refine PQ.w_if_f ?_)
    | (with_reducible refine PQ.w_if_nt ?_)
    | (with_reducible refine PQ.w_if_nf ?_)
    | (with_reducible refine PQ.w_tru_b ?_)
    | (with_reducible refine PQ.w_tru_i ?_)
    | (with_reducible refine PQ.w_tru_t ?_)
    | (with_reducible refine PQ.w_ok ?_)
    | (with_reducible refine PQ.w_snil ?_)
    | (with_reducible refine PQ.w_ex ?_)
    | (with_reducible refine PQ.w_agg ?_)
    | (with_reducible refine PQ.w_fn1 ?_)
    | (with_reducible refine PQ.w_fn2 ?_)
    | (with_reducible refine PQ.w_tup ?_)
    | (with_reducible refine PQ.w_alloc ?_)
    | (with_reducible refine PQ.w_disp ?_)
    | (with_reducible refine PQ.w_e ?_)
    | (with_reducible refine PQ.w_q ?_)
    | (with_reducible refine PQ.w_ir ?_)
    | (with_reducible refine PQ.w_for ?_)
    | (with_reducible refine PQ.w_comp ?_)
    | (with_reducible refine PQ.w_compIf ?_)
    | (with_reducible refine PQ.w_and ?_)
    | (with_reducible refine PQ.w_or ?_)
    | (with_reducible refine PQ.w_not ?_)
    | (with_reducible refine PQ.w_ife ?_)
    | (with_reducible refine PQ.w_slc ?_)
    | (with_reducible refine PQ.w_oN ?_)
    | (with_reducible refine PQ.w_isi ?_)
    | (with_reducible refine PQ.w_app ?_)
    | (with_reducible refine PQ.w_ext ?_)
    | (with_reducible refine PQ.w_pop ?_)
    | (with_reducible refine PQ.w_popAt ?_)
    | (with_reducible refine PQ.w_isN ?_)
    | (with_reducible refine PQ.w_notN ?_)
    | (with_reducible refine PQ.w_inr ?_)
    | (with_reducible refine PQ.w_notInr ?_)
    | (with_reducible refine PQ.w_chn ?_)
    | (with_reducible refine PQ.w_tand ?_)
    | (with_reducible refine PQ.w_tor ?_)
    | (with_reducible refine PQ.w_cat ?_)
    | (with_reducible refine PQ.w_sorted ?_)
    | (with_reducible refine PQ.w_list ?_)
    | (with_reducible refine PQ.w_rev ?_)
    | (with_reducible refine PQ.w_setT ?_)
    | (with_reducible refine PQ.w_par ?_)
    | (with_reducible refine PQ.w_sub ?_)
    | (with_reducible refine PQ.w_bk ?_)
    | (with_reducible refine PQ.w_ct ?_)
    | (with_reducible refine PQ.w_brk ?_)
    | (with_reducible refine PQ.w_cont ?_)
    | (with_reducible refine PQ.w_pass ?_)
    | (with_reducible refine PQ.v_add ?_)
    | (with_reducible refine PQ.v_sub ?_)
    | (with_reducible refine PQ.v_band ?_)
    | (with_reducible refine PQ.v_bor ?_)
    | (with_reducible refine PQ.v_bxor ?_)
    | (with_reducible refine PQ.v_augAdd ?_)
    | (with_reducible refine PQ.v_augSub ?_)
    | (with_reducible refine PQ.v_lt ?_)
    | (with_reducible refine PQ.v_le ?_)
    | (with_reducible refine PQ.v_gt ?_)
    | (with_reducible refine PQ.v_ge ?_)
    | (with_reducible refine PQ.v_eq ?_)
    | (with_reducible refine PQ.v_ne ?_)
    | (with_reducible refine PQ.v_eqS ?_)
    | (with_reducible refine PQ.v_neS ?_)
    | (with_reducible refine PQ.v_eqB ?_)
    | (with_reducible refine PQ.v_intI ?_)
    | (with_reducible refine PQ.v_intB ?_)
    | (with_reducible refine PQ.v_abs ?_)
    | (with_reducible refine PQ.v_gcd ?_)
    | (with_reducible refine PQ.v_min2 ?_)
    | (with_reducible refine PQ.v_max2 ?_)
    | (with_reducible refine PQ.v_slcT ?_)
    | (with_reducible refine PQ.w_bind ?_)
    | (with_reducible refine PQ.r_nx ?_)
    | (with_reducible refine PQ.r_rt ?_)
    | (with_reducible refine PQ.g_self ?_)
    | ((with_reducible apply PQ.w_aug); (focus (exact rfl)))
    | (with_reducible refine PQ.w_neg ?_)
    | (with_reducible refine PQ.w_oS ?_)
    | (with_reducible refine PQ.w_listRg ?_)
    | (with_reducible refine PQ.w_rg ?_)
    | (with_reducible refine PQ.w_augS ?_)
    | ((with_reducible apply PQ.v_mul); (focus (first | assumption | exact .of_left (by decide +kernel) | exact .of_right (by decide +kernel))))
    | ((with_reducible apply PQ.v_fdiv); (focus (first | assumption | exact ⟨by omega, PyProof.noPylong_small (by omega)⟩)))
    | ((with_reducible apply PQ.v_mod); (focus (first | assumption | omega)))
    | ((with_reducible apply PQ.v_pow); (focus (first | assumption | (unfold CPow; decide +kernel) | (unfold CPow; omega))))
    | ((with_reducible apply PQ.v_shl); (focus (first | assumption | (unfold CPow; decide +kernel) | (unfold CPow; omega))))
    | ((with_reducible apply PQ.v_shr); (focus (first | assumption | omega)))
    | ((with_reducible apply PQ.v_idx); (focus (first | exact rfl | assumption)); (focus (first | exact rfl | assumption)))
    | ((with_reducible apply PQ.v_idxT); (focus (first | exact rfl | assumption)))
    | ((with_reducible apply PQ.v_idxF); (focus (first | exact rfl | assumption)))
    | ((with_reducible apply PQ.v_len); (focus (first | exact rfl | assumption)))
    | ((with_reducible apply PQ.v_tuple); (focus (first | exact rfl | assumption)))
    | ((with_reducible apply PQ.v_sum); (focus (first | exact rfl | assumption)); (focus (first | exact rfl | assumption)))
    | ((with_reducible apply PQ.v_all); (focus (first | exact rfl | assumption)); (focus (first | exact rfl | assumption)))
    | ((with_reducible apply PQ.v_any); (focus (first | exact rfl | assumption)); (focus (first | exact rfl | assumption)))
    | ((with_reducible apply PQ.v_slc); (focus (first | exact rfl | assumption)))
    | ((with_reducible apply PQ.v_set); (focus (first | exact rfl | assumption)); (focus (first | exact rfl | assumption)))
    | ((with_reducible apply PQ.w_withL); (focus (first | exact rfl | assumption)))
    | ((with_reducible apply PQ.v_app); (focus (first | exact rfl | assumption)); (focus (first | assumption | exact Nat.lt_of_lt_of_le (Nat.lt_succ_self _) (Nat.le_of_ble_eq_true rfl) | omega)))
    | ((with_reducible apply PQ.v_addT); (focus (first | assumption | exact Nat.le_of_ble_eq_true rfl | omega)))
    | ((with_reducible apply PQ.v_addS); (focus (first | assumption | exact Nat.le_of_ble_eq_true rfl | omega)))
    | ((with_reducible apply PQ.v_addL); (focus (first | exact rfl | assumption)); (focus (first | exact rfl | assumption)); (focus (first | assumption | exact Nat.le_of_ble_eq_true rfl | omega)))
    | ((with_reducible apply PQ.w_tru_r); (focus (first | exact rfl | assumption)))
    | ((with_reducible apply PQ.w_if_T); (focus (exact rfl)))
    | ((with_reducible apply PQ.w_if_F); (focus (exact rfl)))
    | ((with_reducible apply PQ.w_may); (focus (exact rfl)))
    | ((with_reducible refine ⟨_, rfl, ?_⟩))
    | ((with_reducible apply PQ.w_augK); (focus (first | exact rfl | assumption)); (focus (first | exact rfl | assumption)))
    | ((with_reducible refine ⟨_, _, rfl, rfl, ?_, ?_⟩); (focus (first | assumption | (unfold bd62; omega) | (unfold RgOk; omega))))
    | ((with_reducible refine ⟨?_, ?_⟩); (focus (first | assumption | exact Nat.le_of_ble_eq_true rfl | omega))))))
/-! ### the draws: every law has them -/
/-- .. from the place where the number is read -/
def bDraw2 : CSs := (.cons (.augS (.var 0) (.lit (.int 1)) .add (.lit (.int 1)))
  (.cons (.ite (.v (.cmp .ge (.var 3) (.bin .mul (.lit (.int 2)) (.bin .pow (.lit (.int 10)) (.lit (.int 18))))))
  (.cons (.set (.nm 2) (.bin .mod (.fn1 .int (.bin .fdiv (.var 3) (.lit (.int 2)))) (.bin .shl (.lit (.int 1)) (.lit (.int 6000)))))
  (.cons (.sub (.var 0) (.lit (.int 2)) (.bin .fdiv (.var 2) (.var 1)))
  (.cons (.ret (.bin .mod (.fn1 .int (.var 2)) (.var 1)))
  .nil)))
  .nil)
  (.cons (.sub (.var 0) (.lit (.int 3)) (.bin .mod (.fn1 .int (.bin .add (.bin .add (.bin .add (.bin .mul (.idx (.var 0) (.lit (.int 3))) (.lit (.int 48271))) (.bin .mul (.bin .mod (.fn1 .int (.var 3)) (.lit (.int 2147483629))) (.lit (.int 16807)))) (.bin .mul (.idx (.var 0) (.lit (.int 1))) (.lit (.int 69621)))) (.lit (.int 11)))) (.lit (.int 2147483647))))
  (.cons (.ret (.bin .mod (.fn1 .int (.bin .fdiv (.idx (.var 0) (.lit (.int 3))) (.lit (.int 16)))) (.var 1)))
  .nil))))
def bDraw : CSs := (.cons (.ite (.v (.cmp .gt (.idx (.var 0) (.lit (.int 2))) (.lit (.int 0))))
  (.cons (.set (.nm 2) (.idx (.var 0) (.lit (.int 2))))
  (.cons (.sub (.var 0) (.lit (.int 2)) (.bin .fdiv (.var 2) (.var 1)))
  (.cons (.ret (.bin .mod (.fn1 .int (.var 2)) (.var 1)))
  .nil)))
  .nil)
  (.cons (.set (.nm 3) (.lit (.int 0)))
  (.cons (.ite (.v (.cmp .lt (.idx (.var 0) (.lit (.int 1))) (.agg .len (.e (.idx (.var 0) (.lit (.int 0)))))))
  (.cons (.set (.nm 4) (.idx (.idx (.var 0) (.lit (.int 0))) (.idx (.var 0) (.lit (.int 1)))))
  (.cons (.set (.nm 3) (.bin .add (.bin .mul (.lit (.int 2)) (.fn1 .abs (.var 4))) (.fn1 .int (.cmp .lt (.var 4) (.lit (.int 0))))))
  .nil))
  .nil)
  bDraw2)))
/-- the store of a law: the script's ints, the place and the two seeds of the draws; then the law's own -/
structure DS where
  cells : List Int
  p : Int
  r : Int
  s : Int
  p0 : 0 ≤ p
def DS.st (d : DS) (R : Sto) : Sto := .lst (d.cells.map .int) :: .lst [.ref 0, .int d.p, .int d.r, .int d.s] :: R
theorem draw_w {C : Orc} {x : Str} {N : List Str} {d : DS} {R : Sto} {m : Int} {Q : D → Sto → Prop} (hN : N.length = 5) (h1 : 0 < m) (h2 : m < 1073741824) (h : ∀ (y : Int) (d' : DS), 0 ≤ y → y < m → Q (.int y) (d'.st R)) :
    W (callF C ⟨x, N, 2, bDraw⟩ [.ref 1, .int m] (d.st R)) Q := by
  have fd : ∀ i, FDivOk i m := fun i => ⟨by omega, PyProof.noPylong_small (by omega)⟩
  have fd2 : ∀ i, FDivOk i 2 := fun i => ⟨by omega, PyProof.noPylong_small (by omega)⟩
  have fd16 : ∀ i, FDivOk i 16 := fun i => ⟨by omega, PyProof.noPylong_small (by omega)⟩
  have q1 : ∀ i : Int, 0 ≤ i.fmod m := fun i => Int.fmod_nonneg_of_pos i h1
  have q2 : ∀ i : Int, i.fmod m < m := fun i => Int.fmod_lt_of_pos i h1
  have m1 : ∀ i, IntMulOk 2 i := fun i => .of_left (by decide +kernel)
  have m2 : ∀ i, IntMulOk i 48271 := fun i => .of_right (by decide +kernel)
  have m3 : ∀ i, IntMulOk i 16807 := fun i => .of_right (by decide +kernel)
  have m4 : ∀ i, IntMulOk i 69621 := fun i => .of_right (by decide +kernel)
  have c1 : CPow 10 18 := by unfold CPow; decide +kernel
  have c2 : CPow 1 6000 := by unfold CPow; decide +kernel
  have hm : m ≠ 0 := by omega
  have hs : (1 * 2 ^ Int.toNat 6000 : Int) ≠ 0 := by
    rw [Int.one_mul]
    exact Int.ne_of_gt (Int.pow_pos (by decide))
  obtain ⟨cells, p, r, s, p0⟩ := d
  refine def_w (ρ := [some (.ref 1), some (.int m), none, none, none]) rfl (by rw [hN]; rfl) ?_
  simp only [bDraw, DS.st]
  mul_fits
  refine w_ifd (fun k => ?_) fun k => ?_
  · mul_fits
    rw [gc_same (by simp)]
    mul_fits
    exact h _ ⟨cells, p, _, s, p0⟩ (q1 _) (q2 _)
  have tail : ∀ (z : Int) (o : Option D), W (evSs C bDraw2 [some (.ref 1), some (.int m), none, some (.int z), o] (.lst (cells.map .int) :: .lst [.ref 0, .int p, .int r, .int s] :: R)) fun fl S' => W (retK fl S') fun d S'' => W (gc (.lst (cells.map .int) :: .lst [.ref 0, .int p, .int r, .int s] :: R) d S'') Q := by
    intro z o
    simp only [bDraw2]
    mul_fits
    refine w_ifd (fun k => ?_) fun k => ?_
    · mul_fits
      rw [gc_same (by simp)]
      mul_fits
      exact h _ ⟨cells, p + 1, _, s, by omega⟩ (q1 _) (q2 _)
    · mul_fits
      rw [gc_same (by simp)]
      mul_fits
      exact h _ ⟨cells, p + 1, r, _, by omega⟩ (q1 _) (q2 _)
  mul_fits
  refine w_ifd (fun k => ?_) fun k => ?_
  · have hl : p.toNat < cells.length := by rw [List.length_map] at k; omega
    have hc : atI (List.map D.int cells) p = some (.int (cells[p.toNat])) := by
      unfold atI ixN
      rw [if_pos p0, if_pos k]
      simp [hl]
    mul_fits
    exact tail _ _
  · mul_fits
    exact tail _ _
theorem gc_out {S S' : Sto} {d : D} (h : ¬below S.length d) : gc S d S' = .ok d S' := by
  unfold gc
  rw [if_neg fun z => h z.1]
def bBegin : CSs := (.cons (.ret (.alloc (.disp (.cons (.alloc (.comp [1] (.nm 1) (.r (.e (.var 0))) (.fn1 .int (.var 1)))) (.cons (.lit (.int 0)) (.cons (.lit (.int 0)) (.cons (.lit (.int 5)) .nil)))))))
  .nil)
theorem begin_w {C : Orc} {x : Str} {N : List Str} {ns : List Int} {Q : D → Sto → Prop} (hN : N.length = 2) (hl : ns.length ≤ 63) (h : Q (.ref 1) (DS.st ⟨ns, 0, 0, 5, by decide⟩ [])) : W (callF C ⟨x, N, 1, bBegin⟩ [.fix (ns.map .int)] []) Q := by
  refine def_w (ρ := [some (.fix (ns.map .int)), none]) rfl (by rw [hN]; rfl) ?_
  simp only [bBegin]
  mul_fits
  refine ⟨by rw [List.length_map]; exact Nat.le_trans hl (Nat.le_of_ble_eq_true rfl), ?_⟩
  refine loopQ_w (fun ds r S => S = [] ∧ r ++ ds = ns.map .int) (fun d ds r S i => ⟨trivial, ?_⟩) (fun r S i => ⟨trivial, ?_⟩) _ _ ⟨rfl, rfl⟩
  · obtain ⟨rfl, i⟩ := i
    have : d ∈ ns.map D.int := by rw [← i]; simp
    obtain ⟨j, _, rfl⟩ := List.mem_map.mp this
    mul_fits
    exact ⟨rfl, by rw [← i]; simp⟩
  · obtain ⟨rfl, i⟩ := i
    rw [List.append_nil] at i
    subst i
    mul_fits
    rw [gc_out (by simp [below])]
    mul_fits
    exact h
end PQ

/-! The head's facts, with the module's values. -/
namespace PQ
open PySem PySem.Spec PyProof.Rows L2
mutual
def dB (K : PySem.W.Frag) : D → Value → Bool
  | .non, .none => true
  | .bl b, .bool c => b == c
  | .int i, .int j _ => decide (i = j)
  | .str x, .str y _ => decide (x = y)
  | .tup ds, .ref a => (match K.lookup a with
    | some ⟨.type c, _, .seq its _, _⟩ => decide (c = "tuple") && (decide (its.size ≤ sizeLine) && (decide (ds.length ≤ sizeLine) && dsB K ds its.toList))
    | _ => false)
  | _, _ => false
def dsB (K : PySem.W.Frag) : List D → List Value → Bool
  | [], [] => true
  | d :: ds, u :: us => dB K d u && dsB K ds us
  | _, _ => false
end
mutual
theorem dB_ok {K : PySem.W.Frag} : ∀ (d : D) (u : Value), dB K d u = true → ∃ v, RelV v u ∧ ∀ μ H, Rp K μ H d v
  | .non, .none, _ => ⟨.non, rfl, fun _ _ => rfl⟩
  | .bl b, .bool c, h => ⟨.bl b, by
    have : b = c := by simpa [dB] using h
    subst this
    rfl, fun _ _ => rfl⟩
  | .int i, .int j t, h => ⟨.int i, ⟨t, by
    have : i = j := by simpa [dB] using h
    rw [this]⟩, fun _ _ => rfl⟩
  | .str x, .str y t, h => ⟨.str x, ⟨t, by
    have : x = y := by simpa [dB] using h
    rw [this]⟩, fun _ _ => rfl⟩
  | .tup ds, .ref a, h => by
    unfold dB at h
    split at h
    · rename_i c od its n sl e
      obtain ⟨h1, h⟩ := Bool.and_eq_true_iff.mp h
      obtain ⟨h2, h⟩ := Bool.and_eq_true_iff.mp h
      obtain ⟨h3, h⟩ := Bool.and_eq_true_iff.mp h
      obtain ⟨vs, q1, q2⟩ := dsB_ok ds its.toList h
      exact ⟨.ref a, rfl, fun μ H => ⟨a, vs, rfl, .inr ⟨_, its, n, e, congrArg Value.type (of_decide_eq_true h1), rfl, of_decide_eq_true h2, q1⟩, q2 μ H, of_decide_eq_true h3⟩⟩
    · cases h
theorem dsB_ok {K : PySem.W.Frag} : ∀ (ds : List D) (us : List Value), dsB K ds us = true → ∃ vs, Vals vs us ∧ ∀ μ H, RpA K μ H ds vs
  | [], [], _ => ⟨[], .nil, fun _ _ => rfl⟩
  | d :: ds, u :: us, h => by
    obtain ⟨h1, h2⟩ := Bool.and_eq_true_iff.mp h
    obtain ⟨v, a1, a2⟩ := dB_ok d u h1
    obtain ⟨vs, b1, b2⟩ := dsB_ok ds us h2
    exact ⟨v :: vs, .cons a1 b1, fun μ H => .cons (a2 μ H) (b2 μ H)⟩
end
def gB (K : PySem.W.Frag) (q : Str × Gv) : Bool := match q.2 with
  | .con d => (match PySem.W.nsIn K mainGlobals q.1 with
    | some (some u) => dB K d u
    | _ => false)
  | .fn id => He.eqO (PySem.W.nsIn K mainGlobals q.1) (some (some (.builtin id)))
theorem gB_ok {K : PySem.W.Frag} {h : Heap} {mg : Str → Option Value} (X : K.In h) (G : h.Ns mainGlobals mg) {Gs : List (Str × Gv)} (c : Gs.all (gB K) = true) : ∀ x g, (x, g) ∈ Gs → GvOk K mg x g := fun x g hx => by
  have c1 := List.all_eq_true.mp c _ hx
  cases g with
  | con d =>
    have c1 : (match PySem.W.nsIn K mainGlobals x with
      | some (some u) => dB K d u
      | _ => false) = true := c1
    split at c1
    · rename_i u e
      obtain ⟨v, h1, h2⟩ := dB_ok d u c1
      exact ⟨v, u, PySem.W.mg_of X G e, h1, h2⟩
    · cases c1
  | fn id => exact PySem.W.mg_of X G (He.eqO_ok c1)
def obP (n : Nat) (fa : List He.Fa) (fn : List He.DefD) (Gs : List (Str × Gv)) (g : Addr → Option Obj) : He.AlD × Bool := (He.obsDG n fa fn g, Gs.all (gB (He.frG g (He.asD g n))))
def hookP (n : Nat) (fa : List He.Fa) (fn : List He.DefD) (Gs : List (Str × Gv)) : PySem.W.Hook where
  α := He.AlD × Bool
  obs := fun s => obP n fa fn Gs s.heap.get?
  val := fun _ => (He.valD fn, true)
  says := fun _ h => ∃ K : PySem.W.Frag, K.In h ∧ He.SaysD fa fn K ∧ Gs.all (gB K) = true
  of := fun _ _ e => ⟨_, He.frG_in, congrArg (fun z : He.AlD × Bool => z.1) e, congrArg (fun z : He.AlD × Bool => z.2) e⟩
  keeps := fun _ _ _ ⟨K, hK, c⟩ k => ⟨K, PySem.W.Frag.In.keeps hK k, c⟩
theorem obP_eq {n : Nat} {fa : List He.Fa} {fn : List He.DefD} {Gs : List (Str × Gv)} {g : Addr → Option Obj} {s : Shared} (h : ∀ a, g a = s.heap.get? a) : obP n fa fn Gs g = (hookP n fa fn Gs).obs s := by
  have e : g = s.heap.get? := funext h
  rw [e] <;> rfl
end PQ

namespace PQ
open PySem PySem.Spec PyProof.Rows L2
theorem le64 {n : Nat} (h : n ≤ 64) : n ≤ sizeLine := Nat.le_trans h (Nat.le_of_ble_eq_true rfl)
end PQ

/-! Helps that more than one law asks for. -/
namespace PQ
open PySem PySem.Spec PyProof.Rows L2
theorem while_w {C : Orc} {t : CT} {b : CSs} {Q : Fl → Sto → Prop} (I : Nat → En → Sto → Prop)
    (h : ∀ n ρ S, I n ρ S → W (evT C t ρ S) fun c S1 => (c = true → ∃ m, n = m + 1 ∧ W (evSs C b ρ S1) fun fl S2 => ∃ ρ', (fl = .nx ρ' ∨ fl = .ct ρ') ∧ I m ρ' S2) ∧ (c = false → Q (.nx ρ) S1)) : ∀ (n fuel : Nat) ρ S, n < fuel → I n ρ S → W (whileS (evT C t) (evSs C b) fuel ρ S) Q
  | n, 0, _, _, hf, _ => by omega
  | n, fuel + 1, ρ, S, hf, hi => by
    rw [whileS, W_bind]
    refine W_mono (h n ρ S hi) fun c S1 hc => ?_
    cases c with
    | false =>
      rw [if_neg (by decide), W_ok]
      exact hc.2 rfl
    | true =>
      obtain ⟨m, rfl, hb⟩ := hc.1 rfl
      rw [if_pos rfl, W_bind]
      refine W_mono hb fun fl S2 ⟨ρ', e, k⟩ => ?_
      rcases e with e | e <;> subst e <;> exact while_w I h m fuel ρ' S2 (by omega) k
theorem get_end (S : Sto) (o : Ob) : (S ++ [o])[S.length]? = some o := by simp
theorem set_end (S : Sto) (o p : Ob) : (S ++ [o]).set S.length p = S ++ [p] := by simp
theorem get_pre {S R : Sto} {a : Nat} {o : Ob} (h : S[a]? = some o) : (S ++ R)[a]? = some o := by
  rw [List.getElem?_append_left (List.getElem?_eq_some_iff.mp h).1]
  exact h
theorem ints_map (ns : List Int) : intsOf (ns.map D.int) = some ns := by
  induction ns with
  | nil => rfl
  | cons x xs ih => simp [intsOf, ih]
theorem at_last (l : List D) (d : D) : atI (l ++ [d]) (-1) = some d := by
  unfold atI ixN
  rw [if_neg (by omega), if_pos (by simp; omega)]
  have e : ((-1 : Int) + ((l ++ [d]).length : Int)).toNat = l.length := by simp; omega
  rw [e]
  simp
theorem sum_nn : ∀ ns : List Int, (∀ n ∈ ns, 0 ≤ n) → 0 ≤ ns.sum
  | [], _ => by simp
  | n :: ns, h => by
    have := h n (by simp)
    have := sum_nn ns fun x hx => h x (by simp [hx])
    rw [List.sum_cons]
    omega
theorem rgD_get {i j : Int} {d : D} (h : d ∈ rgD i j) : ∃ x, d = .int x ∧ i ≤ x ∧ x < j := by
  obtain ⟨q, hq, rfl⟩ := List.mem_map.mp h
  rw [List.mem_range] at hq
  exact ⟨_, rfl, by omega, by omega⟩
def Grown (S S' : Sto) : Prop := ∃ g, S' = S ++ g
theorem bools_map (bs : List Bool) : boolsOf (bs.map D.bl) = some bs := by
  induction bs with
  | nil => rfl
  | cons x xs ih => simp [boolsOf, ih]
theorem le_size {n : Nat} (h : n ≤ 100000) : n ≤ sizeLine := Nat.le_trans h (Nat.le_of_ble_eq_true rfl)
theorem gc_st {d d' : DS} {R g : Sto} {e : D} {Q : D → Sto → Prop} (h1 : below (R.length + 2) e → Q e (d'.st R)) (h2 : Q e (d'.st (R ++ g))) : W (gc (d.st R) e (d'.st (R ++ g))) Q := by
  unfold gc
  split
  · rename_i sf
    rw [W_ok]
    have : (d'.st (R ++ g)).take (d.st R).length = d'.st R := by
      show List.take (R.length + 2) (_ :: _ :: (R ++ g)) = _
      rw [List.take_succ_cons, List.take_succ_cons, List.take_left' rfl]
      rfl
    rw [this]
    exact h1 sf.1
  · rw [W_ok]
    exact h2
theorem st_len {d : DS} {R : Sto} : (d.st R).length = R.length + 2 := rfl
theorem st_app {d : DS} {R g : Sto} : d.st R ++ g = d.st (R ++ g) := rfl
theorem st_get {d : DS} {R : Sto} {b : Nat} : (d.st R)[b + 2]? = R[b]? := rfl
theorem w_es {C : Orc} {es : CEs} {ρ : En} {S S1 : Sto} {ds : List D} {Q : List D → Sto → Prop} (he : evEs C es ρ S = .ok ds S1) (h : Q ds S1) : W (evEs C es ρ S) Q := by
  rw [he, W_ok]
  exact h
def Good1 (fl : Fl) (S : Sto) : Prop := W (retK fl S) fun d S' => W (gc [] d S') fun e _ => e = .bl true
theorem good1 {S : Sto} : Good1 (.rt (.bl true)) S := by
  refine r_rt ?_
  rw [show S = [] ++ S from rfl, gc_app (by simp [below])]
  exact w_ok rfl
theorem st_end {d : DS} {R : Sto} {o : Ob} : (d.st (R ++ [o]))[R.length + 2]? = some o := by rw [st_get]; exact get_end R o
theorem fdiv_small {c : Int} (h0 : c ≠ 0) (h : c.natAbs < 2 ^ 8000) (n : Int) : FDivOk n c := ⟨h0, PyProof.noPylong_of_log2 (by
  have h1 : c.natAbs ≠ 0 := by omega
  have := (Nat.log2_lt h1).mpr h
  omega)⟩
theorem mul_bd {a b : Int} {m n : Nat} (ha : a.natAbs < 2 ^ m) (hb : b.natAbs < 2 ^ n) : (a * b).natAbs < 2 ^ (m + n) := by
  rw [Int.natAbs_mul, Nat.pow_add]
  exact Nat.mul_lt_mul_of_lt_of_le ha (Nat.le_of_lt hb) (Nat.two_pow_pos _)
theorem bd_mono {a : Int} {m n : Nat} (h : a.natAbs < 2 ^ m) (hmn : m ≤ n) : a.natAbs < 2 ^ n := Nat.lt_of_lt_of_le h (Nat.pow_le_pow_right (by decide) hmn)
theorem add_bd {a b : Int} {m : Nat} (ha : a.natAbs < 2 ^ m) (hb : b.natAbs < 2 ^ m) : (a + b).natAbs < 2 ^ (m + 1) := by
  rw [Nat.pow_succ]
  omega
theorem sub_bd {a b : Int} {m : Nat} (ha : a.natAbs < 2 ^ m) (hb : b.natAbs < 2 ^ m) : (a - b).natAbs < 2 ^ (m + 1) := by
  rw [Nat.pow_succ]
  omega
theorem mul_okb {a b : Int} {m n : Nat} (ha : a.natAbs < 2 ^ m) (hb : b.natAbs < 2 ^ n) (h : m + n ≤ 134217728) : IntMulOk a b := (mulx_ok ha hb h).ok
section
variable {S : Sto} {Q : D → Sto → Prop}
theorem v_idxS {z : Str} {i : Int} {c : Nat} (k : z.length ≤ sizeLine) (k2 : atI z.cps.toList i = some c) (h : Q (.str ⟨#[c]⟩) S) : W (idxD (.str z) (.int i) S) Q := by
  simpa [idxD, k, k2] using h
theorem v_mulL {i : Nat} {n : Int} {a : List D} (k1 : S[i]? = some (.lst a)) (k2 : -(2 ^ 63) ≤ n ∧ n < 2 ^ 63 ∧ a.length * n.toNat ≤ sizeLine) (h : Q (.ref S.length) (S ++ [.lst (List.replicate n.toNat a).flatten])) : W (binD .mul (.ref i) (.int n) S) Q := by
  simp only [binD, k1, W_ask, W_ok]
  exact ⟨k2, h⟩
theorem v_ext {a : Nat} {ds es : List D} {r : RV} (k1 : S[a]? = some (.lst ds)) (k2 : trOf S r = some es) (k3 : ds.length + es.length ≤ sizeLine) (h : Q .non (S.set a (.lst (ds ++ es)))) : W (extD (.ref a) r S) Q := by
  simp only [extD, withL, k1, k2, may_some, if_pos k3, W_ok]
  exact h
theorem v_pop {a : Nat} {ds : List D} {d : D} (k1 : S[a]? = some (.lst ds)) (k2 : ds[ds.length - 1]? = some d) (h : Q d (S.set a (.lst ds.dropLast))) : W (popD (.ref a) S) Q := by
  simp only [popD, withL, k1, k2, may_some, W_ok]
  exact h
theorem v_popAt {a : Nat} {ds : List D} {i : Int} {k : Nat} {d : D} (k1 : S[a]? = some (.lst ds)) (k0 : -(2 ^ 63) ≤ i ∧ i < 2 ^ 63) (k2 : seqIndex? i ds.length = some k) (k3 : ds[k]? = some d) (h : Q d (S.set a (.lst (ds.eraseIdx k)))) : W (popAtD (.ref a) (.int i) S) Q := by
  simp only [popAtD, withL, k1, if_pos k0, k2, k3, may_some, W_ok]
  exact h
end
end PQ

/-! A walk that may go back early. -/
namespace PQ
open PySem PySem.Spec PyProof.Rows L2
theorem loopS_r {C : Sto → Prop} {f : D → En → Sto → Res Fl} {Q : Fl → Sto → Prop} (I : List D → En → Sto → Prop)
    (h : ∀ d ds ρ S, I (d :: ds) ρ S → C S ∧ W (f d ρ S) fun fl S' => match fl with
      | .nx ρ' => I ds ρ' S'
      | .ct ρ' => I ds ρ' S'
      | .bk ρ' => Q (.nx ρ') S'
      | .rt x => Q (.rt x) S')
    (h0 : ∀ ρ S, I [] ρ S → C S ∧ Q (.nx ρ) S) : ∀ ds ρ S, I ds ρ S → W (loopS C f ds ρ S) Q
  | [], ρ, S, i => by
    rw [loopS, W_ask, W_ok]
    exact h0 ρ S i
  | d :: ds, ρ, S, i => by
    rw [loopS, W_ask, W_bind]
    obtain ⟨k1, k2⟩ := h d ds ρ S i
    refine ⟨k1, W_mono k2 fun fl S' k => ?_⟩
    cases fl with
    | nx ρ' => exact loopS_r I h h0 ds ρ' S' k
    | ct ρ' => exact loopS_r I h h0 ds ρ' S' k
    | bk ρ' => exact (W_ok (Q := Q)).symm ▸ k
    | rt x => exact (W_ok (Q := Q)).symm ▸ k
end PQ

/-! Numbers and tuples alone; more helps. -/
namespace PQ
open PySem PySem.Spec PyProof.Rows L2
theorem v_lenS {S : Sto} {z : Str} {Q : D → Sto → Prop} (k : z.length ≤ sizeLine) (h : Q (.int z.length) S) : W (aggD .len (.val (.str z)) S) Q := by
  have e : aggD .len (.val (.str z)) S = .ok (.int z.length) S := by
    show (if z.length ≤ sizeLine then _ else _) = _
    rw [if_pos k]
  rw [e, W_ok]
  exact h
theorem rgD0 (n : Nat) : rgD 0 (n : Int) = (List.range n).map fun (k : Nat) => D.int (k : Int) := by simp [rgD]
abbrev natD (n : Nat) : D := .int (n : Int)
theorem at_map {α : Type} (f : α → D) (l : List α) (k : Nat) (h : k < l.length) : atI (l.map f) (k : Int) = some (f l[k]) := by
  unfold atI ixN
  rw [if_pos (by omega), if_pos (by simp; omega)]
  simp [h]
def gI (l : List Int) (k : Nat) : Int := l.getD k 0
theorem at_ints (l : List Int) (k : Nat) (h : k < l.length) : atI (l.map D.int) (k : Int) = some (.int (gI l k)) := by
  rw [at_map _ _ _ h]
  simp [gI, h]
theorem ix_nat {n k : Nat} (h : k < n) : ixN n (k : Int) = some k := by
  unfold ixN
  rw [if_pos (by omega), if_pos (by omega)]
  simp
theorem at_nat (l : List D) (k : Nat) (h : k < l.length) : atI l (k : Int) = some l[k] := by
  unfold atI
  rw [ix_nat h]
  simp [h]
theorem get_mid (S R : Sto) (o : Ob) : (S ++ [o] ++ R)[S.length]? = some o := by simp
theorem set_mid (S R : Sto) (o p : Ob) : (S ++ [o] ++ R).set S.length p = S ++ [p] ++ R := by
  rw [List.set_append_left _ _ (by simp), set_end]
theorem get_far {S R : Sto} {o p : Ob} {b : Nat} {q : Ob} (h : S.length < b) (e : (S ++ [o] ++ R)[b]? = some q) : (S ++ [p] ++ R)[b]? = some q := by
  rw [List.getElem?_append_right (by simp; omega)] at e ⊢
  simpa using e
/-- numbers and tuples of such -/
inductive It : D → Prop
  | int (i : Int) : It (.int i)
  | tup (ds : List D) (h : ∀ d ∈ ds, It d) : It (.tup ds)
theorem belows_iff {n : Nat} : ∀ {ds : List D}, belows n ds ↔ ∀ d ∈ ds, below n d
  | [] => by simp [belows]
  | d :: ds => by simp [belows, belows_iff (ds := ds)]
theorem it_below {n : Nat} {d : D} (h : It d) : below n d := by
  induction h with
  | int i => simp [PQ.below]
  | tup ds h ih =>
    show belows n ds
    exact belows_iff.mpr ih
theorem it_ints (l : List Int) : It (.tup (l.map D.int)) := .tup _ fun d hd => by
  obtain ⟨i, _, rfl⟩ := List.mem_map.mp hd
  exact .int i
end PQ

namespace K63
open PySem PySem.Spec PyProof.Rows L2 PQ
abbrev P : Program := PySem.Challenge.pw_everygrown_k63_combinations
def top (i : Nat) : Stmt := P.main.body.getD i (.Pass ⟨0, 0, 0, 0⟩)
def names : List Str := ["frac", "minus", "times", "over", "first_with", "scaled", "cleared", "solution", "combination", "_law_begin", "_law_draw", "_law_shuffled", "_law_some", "_law_is_int", "_law_gcd", "_law_frac", "_law_is_frac", "_law_plus", "_law_minus", "_law_times", "_law_over", "_law_some_frac", "_law_rows", "_law_cleared", "law"]
def B : List Str := ["len", "range", "tuple", "int", "isinstance", "list", "min", "all", "abs", "bool"]
def Gs : List (Str × Gv) := [("gcd", .fn "math.gcd"), ("ZERO", .con (.tup [.int 0, .int 1]))]

/-! ### the defs, in the small language -/
def b_frac_1 : CSs := (.cons (.ret (.tup (.cons (.bin .fdiv (.var 0) (.var 2)) (.cons (.bin .fdiv (.var 1) (.var 2)) .nil)))) .nil)
def b_frac : CSs := (.cons (.set (.nm 2) (.fn2 .gcd (.var 0) (.var 1))) (.cons (.ite (.v (.cmp .lt (.var 1) (.lit (.int 0)))) (.cons (.set (.nm 2) (.neg (.var 2))) .nil) .nil) b_frac_1))
def b_minus : CSs := (.cons (.ret (.call 0 (.cons (.bin .sub (.bin .mul (.idx (.var 0) (.lit (.int 0))) (.idx (.var 1) (.lit (.int 1)))) (.bin .mul (.idx (.var 1) (.lit (.int 0))) (.idx (.var 0) (.lit (.int 1))))) (.cons (.bin .mul (.idx (.var 0) (.lit (.int 1))) (.idx (.var 1) (.lit (.int 1)))) .nil)))) .nil)
def b_times : CSs := (.cons (.ret (.call 0 (.cons (.bin .mul (.idx (.var 0) (.lit (.int 0))) (.idx (.var 1) (.lit (.int 0)))) (.cons (.bin .mul (.idx (.var 0) (.lit (.int 1))) (.idx (.var 1) (.lit (.int 1)))) .nil)))) .nil)
def b_over : CSs := (.cons (.ret (.call 0 (.cons (.bin .mul (.idx (.var 0) (.lit (.int 0))) (.idx (.var 1) (.lit (.int 1)))) (.cons (.bin .mul (.idx (.var 0) (.lit (.int 1))) (.idx (.var 1) (.lit (.int 0)))) .nil)))) .nil)
def b_first_with_1 : CSs := (.cons (.ite (.v (.cmp .ne (.idx (.idx (.var 0) (.var 3)) (.var 2)) (.lit (.tup [ ( .int 0 ) , ( .int 1 ) ])))) (.cons (.ret (.var 3)) .nil) .nil) .nil)
def b_first_with_2 : CSs := (.cons (.ret (.lit .non)) .nil)
def b_first_with : CSs := (.cons (.for (.nm 3) (.rg (.var 1) (.agg .len (.e (.var 0)))) b_first_with_1) b_first_with_2)
def b_scaled : CSs := (.cons (.ret (.alloc (.comp [ 2 ] (.nm 2) (.r (.e (.var 0))) (.call 3 (.cons (.var 2) (.cons (.var 1) .nil)))))) .nil)
def b_cleared : CSs := (.cons (.set (.nm 3) (.idx (.var 0) (.var 2))) (.cons (.ret (.alloc (.comp [ 4 ] (.nm 4) (.rg (.lit (.int 0)) (.agg .len (.e (.var 0)))) (.call 1 (.cons (.idx (.var 0) (.var 4)) (.cons (.call 2 (.cons (.var 3) (.cons (.idx (.var 1) (.var 4)) .nil))) .nil)))))) .nil))
def b_solution_3 : CSs := (.cons (.ite (.and (.v (.cmp .ne (.var 6) (.var 3))) (.v (.cmp .ne (.idx (.idx (.var 2) (.var 6)) (.var 3)) (.lit (.tup [ ( .int 0 ) , ( .int 1 ) ]))))) (.cons (.sub (.var 2) (.var 6) (.call 6 (.cons (.idx (.var 2) (.var 6)) (.cons (.var 5) (.cons (.var 3) .nil))))) .nil) .nil) .nil)
def b_solution_2 : CSs := (.cons (.set (.nm 5) (.call 5 (.cons (.idx (.var 2) (.var 4)) (.cons (.idx (.idx (.var 2) (.var 4)) (.var 3)) .nil)))) (.cons (.sub (.var 2) (.var 4) (.idx (.var 2) (.var 3))) (.cons (.sub (.var 2) (.var 3) (.var 5)) (.cons (.for (.nm 6) (.rg (.lit (.int 0)) (.agg .len (.e (.var 2)))) b_solution_3) .nil))))
def b_solution_1 : CSs := (.cons (.set (.nm 4) (.call 4 (.cons (.var 2) (.cons (.var 3) (.cons (.var 3) .nil))))) (.cons (.ite (.v (.isN (.var 4))) (.cons (.ret (.lit .non)) .nil) .nil) b_solution_2))
def b_solution_5 : CSs := (.cons (.ite (.v (.cmp .ne (.idx (.idx (.var 2) (.var 6)) (.var 1)) (.lit (.tup [ ( .int 0 ) , ( .int 1 ) ])))) (.cons (.ret (.lit .non)) .nil) .nil) .nil)
def b_solution_6 : CSs := (.cons (.ret (.agg .tuple (.q (.comp [ 6 ] (.nm 6) (.rg (.lit (.int 0)) (.var 1)) (.idx (.idx (.var 2) (.var 6)) (.var 1)))))) .nil)
def b_solution_4 : CSs := (.cons (.for (.nm 6) (.rg (.var 1) (.agg .len (.e (.var 2)))) b_solution_5) b_solution_6)
def b_solution : CSs := (.cons (.set (.nm 2) (.alloc (.comp [ 7 ] (.nm 7) (.r (.e (.var 0))) (.alloc (.list (.e (.var 7))))))) (.cons (.for (.nm 3) (.rg (.lit (.int 0)) (.var 1)) b_solution_1) b_solution_4))
def b_combination_1 : CSs := (.cons (.ex (.app (.var 2) (.alloc (.cat (.q (.comp [ 4 ] (.nm 4) (.r (.e (.var 0))) (.idx (.var 4) (.var 3)))) (.q (.disp (.cons (.idx (.var 1) (.var 3)) .nil))))))) .nil)
def b_combination_2 : CSs := (.cons (.ret (.call 7 (.cons (.var 2) (.cons (.agg .len (.e (.var 0))) .nil)))) .nil)
def b_combination : CSs := (.cons (.set (.nm 2) (.alloc (.disp .nil))) (.cons (.for (.nm 3) (.rg (.lit (.int 0)) (.agg .len (.e (.var 1)))) b_combination_1) b_combination_2))
def b__law_begin : CSs := (.cons (.ret (.alloc (.disp (.cons (.alloc (.comp [ 1 ] (.nm 1) (.r (.e (.var 0))) (.fn1 .int (.var 1)))) (.cons (.lit (.int 0)) (.cons (.lit (.int 0)) (.cons (.lit (.int 5)) .nil))))))) .nil)
def b__law_draw_3 : CSs := (.cons (.sub (.var 0) (.lit (.int 3)) (.bin .mod (.fn1 .int (.bin .add (.bin .add (.bin .add (.bin .mul (.idx (.var 0) (.lit (.int 3))) (.lit (.int 48271))) (.bin .mul (.bin .mod (.fn1 .int (.var 3)) (.lit (.int 2147483629))) (.lit (.int 16807)))) (.bin .mul (.idx (.var 0) (.lit (.int 1))) (.lit (.int 69621)))) (.lit (.int 11)))) (.lit (.int 2147483647)))) (.cons (.ret (.bin .mod (.fn1 .int (.bin .fdiv (.idx (.var 0) (.lit (.int 3))) (.lit (.int 16)))) (.var 1))) .nil))
def b__law_draw_2 : CSs := (.cons (.augS (.var 0) (.lit (.int 1)) .add (.lit (.int 1))) (.cons (.ite (.v (.cmp .ge (.var 3) (.bin .mul (.lit (.int 2)) (.bin .pow (.lit (.int 10)) (.lit (.int 18)))))) (.cons (.set (.nm 2) (.bin .mod (.fn1 .int (.bin .fdiv (.var 3) (.lit (.int 2)))) (.bin .shl (.lit (.int 1)) (.lit (.int 6000))))) (.cons (.sub (.var 0) (.lit (.int 2)) (.bin .fdiv (.var 2) (.var 1))) (.cons (.ret (.bin .mod (.fn1 .int (.var 2)) (.var 1))) .nil))) .nil) b__law_draw_3))
def b__law_draw_1 : CSs := (.cons (.set (.nm 3) (.lit (.int 0))) (.cons (.ite (.v (.cmp .lt (.idx (.var 0) (.lit (.int 1))) (.agg .len (.e (.idx (.var 0) (.lit (.int 0))))))) (.cons (.set (.nm 4) (.idx (.idx (.var 0) (.lit (.int 0))) (.idx (.var 0) (.lit (.int 1))))) (.cons (.set (.nm 3) (.bin .add (.bin .mul (.lit (.int 2)) (.fn1 .abs (.var 4))) (.fn1 .int (.cmp .lt (.var 4) (.lit (.int 0)))))) .nil)) .nil) b__law_draw_2))
def b__law_draw : CSs := (.cons (.ite (.v (.cmp .gt (.idx (.var 0) (.lit (.int 2))) (.lit (.int 0)))) (.cons (.set (.nm 2) (.idx (.var 0) (.lit (.int 2)))) (.cons (.sub (.var 0) (.lit (.int 2)) (.bin .fdiv (.var 2) (.var 1))) (.cons (.ret (.bin .mod (.fn1 .int (.var 2)) (.var 1))) .nil))) .nil) b__law_draw_1)
def b__law_shuffled_1 : CSs := (.cons (.ex (.app (.var 3) (.popAt (.var 2) (.call 10 (.cons (.var 0) (.cons (.agg .len (.e (.var 2))) .nil)))))) .nil)
def b__law_shuffled_2 : CSs := (.cons (.ret (.var 3)) .nil)
def b__law_shuffled : CSs := (.cons (.set (.nm 2) (.alloc (.list (.e (.var 1))))) (.cons (.set (.nm 3) (.alloc (.disp .nil))) (.cons (.for (.nm 4) (.rg (.lit (.int 0)) (.agg .len (.e (.var 2)))) b__law_shuffled_1) b__law_shuffled_2)))
def b__law_some : CSs := (.cons (.ret (.slc (.call 11 (.cons (.var 0) (.cons (.var 1) .nil))) .none (.some (.var 2)))) .nil)
def b__law_is_int : CSs := (.cons (.ret (.and (.isi (.var 0) .int) (.not (.isi (.var 0) .bool)))) .nil)
def b__law_gcd_1 : CSs := (.cons (.par 0 1 (.var 1) (.bin .mod (.fn1 .int (.var 0)) (.var 1))) .nil)
def b__law_gcd_2 : CSs := (.cons (.ret (.var 0)) .nil)
def b__law_gcd : CSs := (.cons (.par 0 1 (.fn1 .abs (.var 0)) (.fn1 .abs (.var 1))) (.cons (.while (.v (.cmp .ne (.var 1) (.lit (.int 0)))) b__law_gcd_1) b__law_gcd_2))
def b__law_frac_1 : CSs := (.cons (.set (.nm 2) (.call 14 (.cons (.var 0) (.cons (.var 1) .nil)))) (.cons (.ret (.tup (.cons (.bin .fdiv (.var 0) (.var 2)) (.cons (.bin .fdiv (.var 1) (.var 2)) .nil)))) .nil))
def b__law_frac : CSs := (.cons (.ite (.v (.cmp .lt (.var 1) (.lit (.int 0)))) (.cons (.par 0 1 (.neg (.var 0)) (.neg (.var 1))) .nil) .nil) b__law_frac_1)
def b__law_is_frac_2 : CSs := (.cons (.ret (.and (.cmp .ge (.idx (.var 0) (.lit (.int 1))) (.lit (.int 1))) (.cmp .eq (.call 14 (.cons (.idx (.var 0) (.lit (.int 0))) (.cons (.idx (.var 0) (.lit (.int 1))) .nil))) (.lit (.int 1))))) .nil)
def b__law_is_frac_1 : CSs := (.cons (.ite (.not (.and (.v (.call 13 (.cons (.idx (.var 0) (.lit (.int 0))) .nil))) (.v (.call 13 (.cons (.idx (.var 0) (.lit (.int 1))) .nil))))) (.cons (.ret (.lit (.bl false))) .nil) .nil) b__law_is_frac_2)
def b__law_is_frac : CSs := (.cons (.ite (.or (.not (.v (.isi (.var 0) .tuple))) (.v (.cmp .ne (.agg .len (.e (.var 0))) (.lit (.int 2))))) (.cons (.ret (.lit (.bl false))) .nil) .nil) b__law_is_frac_1)
def b__law_plus : CSs := (.cons (.ret (.call 15 (.cons (.bin .add (.bin .mul (.idx (.var 0) (.lit (.int 0))) (.idx (.var 1) (.lit (.int 1)))) (.bin .mul (.idx (.var 1) (.lit (.int 0))) (.idx (.var 0) (.lit (.int 1))))) (.cons (.bin .mul (.idx (.var 0) (.lit (.int 1))) (.idx (.var 1) (.lit (.int 1)))) .nil)))) .nil)
def b__law_minus : CSs := (.cons (.ret (.call 15 (.cons (.bin .sub (.bin .mul (.idx (.var 0) (.lit (.int 0))) (.idx (.var 1) (.lit (.int 1)))) (.bin .mul (.idx (.var 1) (.lit (.int 0))) (.idx (.var 0) (.lit (.int 1))))) (.cons (.bin .mul (.idx (.var 0) (.lit (.int 1))) (.idx (.var 1) (.lit (.int 1)))) .nil)))) .nil)
def b__law_times : CSs := (.cons (.ret (.call 15 (.cons (.bin .mul (.idx (.var 0) (.lit (.int 0))) (.idx (.var 1) (.lit (.int 0)))) (.cons (.bin .mul (.idx (.var 0) (.lit (.int 1))) (.idx (.var 1) (.lit (.int 1)))) .nil)))) .nil)
def b__law_over : CSs := (.cons (.ret (.call 15 (.cons (.bin .mul (.idx (.var 0) (.lit (.int 0))) (.idx (.var 1) (.lit (.int 1)))) (.cons (.bin .mul (.idx (.var 0) (.lit (.int 1))) (.idx (.var 1) (.lit (.int 0)))) .nil)))) .nil)
def b__law_some_frac : CSs := (.cons (.ret (.call 15 (.cons (.bin .sub (.call 10 (.cons (.var 0) (.cons (.lit (.int 9)) .nil))) (.lit (.int 4))) (.cons (.bin .add (.lit (.int 1)) (.call 10 (.cons (.var 0) (.cons (.lit (.int 4)) .nil)))) .nil)))) .nil)
def b__law_rows_2 : CSs := (.cons (.sub (.var 6) (.idx (.var 3) (.var 7)) (.tup (.cons (.lit (.int 0)) (.cons (.lit (.int 1)) .nil)))) .nil)
def b__law_rows_3 : CSs := (.cons (.sub (.var 6) (.idx (.var 3) (.var 5)) (.call 15 (.cons (.bin .add (.lit (.int 1)) (.call 10 (.cons (.var 0) (.cons (.lit (.int 4)) .nil)))) (.cons (.bin .add (.lit (.int 1)) (.call 10 (.cons (.var 0) (.cons (.lit (.int 3)) .nil)))) .nil)))) (.cons (.ex (.app (.var 4) (.var 6))) .nil))
def b__law_rows_1 : CSs := (.cons (.set (.nm 6) (.alloc (.comp [ 8 ] (.nm 8) (.rg (.lit (.int 0)) (.var 2)) (.call 21 (.cons (.var 0) .nil))))) (.cons (.for (.nm 7) (.rg (.lit (.int 0)) (.var 5)) b__law_rows_2) b__law_rows_3))
def b__law_rows_4 : CSs := (.cons (.ret (.alloc (.disp (.cons (.var 4) (.cons (.var 3) .nil))))) .nil)
def b__law_rows : CSs := (.cons (.set (.nm 3) (.call 12 (.cons (.var 0) (.cons (.alloc (.listRg (.lit (.int 0)) (.var 2))) (.cons (.var 1) .nil))))) (.cons (.set (.nm 4) (.alloc (.disp .nil))) (.cons (.for (.nm 5) (.rg (.lit (.int 0)) (.var 1)) b__law_rows_1) b__law_rows_4)))
def b__law_cleared_1 : CSs := (.cons (.set (.nm 6) (.call 20 (.cons (.idx (.var 3) (.idx (.var 1) (.var 5))) (.cons (.idx (.idx (.var 0) (.var 5)) (.idx (.var 1) (.var 5))) .nil)))) (.cons (.ex (.app (.var 4) (.var 6))) (.cons (.set (.nm 3) (.alloc (.comp [ 7 ] (.nm 7) (.rg (.lit (.int 0)) (.agg .len (.e (.var 3)))) (.call 18 (.cons (.idx (.var 3) (.var 7)) (.cons (.call 19 (.cons (.var 6) (.cons (.idx (.idx (.var 0) (.var 5)) (.var 7)) .nil))) .nil)))))) .nil)))
def b__law_cleared_2 : CSs := (.cons (.ret (.ife (.v (.agg .all (.q (.comp [ 8 ] (.nm 8) (.r (.e (.var 3))) (.cmp .eq (.var 8) (.tup (.cons (.lit (.int 0)) (.cons (.lit (.int 1)) .nil)))))))) (.var 4) (.lit .non))) .nil)
def b__law_cleared : CSs := (.cons (.set (.nm 3) (.alloc (.list (.e (.var 2))))) (.cons (.set (.nm 4) (.alloc (.disp .nil))) (.cons (.for (.nm 5) (.rg (.lit (.int 0)) (.agg .len (.e (.var 0)))) b__law_cleared_1) b__law_cleared_2)))
def b_law_1 : CSs := (.cons (.set (.nm 8) (.call 21 (.cons (.var 1) .nil))) (.cons (.set (.nm 5) (.alloc (.comp [ 9 ] (.nm 9) (.rg (.lit (.int 0)) (.var 2)) (.call 17 (.cons (.idx (.var 5) (.var 9)) (.cons (.call 19 (.cons (.var 8) (.cons (.idx (.var 7) (.var 9)) .nil))) .nil)))))) .nil))
def b_law_2 : CSs := (.cons (.ite (.v (.cmp .eq (.var 6) (.lit (.int 1)))) (.cons (.set (.nm 9) (.call 10 (.cons (.var 1) (.cons (.var 2) .nil)))) (.cons (.sub (.var 5) (.var 9) (.call 17 (.cons (.idx (.var 5) (.var 9)) (.cons (.tup (.cons (.lit (.int 1)) (.cons (.lit (.int 1)) .nil))) .nil)))) .nil)) .nil) .nil)
def b_law_4 : CSs := (.cons (.ret (.and (.cmp .eq (.var 12) (.agg .tuple (.q (.comp [ 13 ] (.nm 13) (.r (.e (.var 11))) (.idx (.var 10) (.var 13)))))) (.agg .all (.q (.comp [ 14 ] (.nm 14) (.r (.e (.var 12))) (.call 16 (.cons (.var 14) .nil))))))) .nil)
def b_law_3 : CSs := (.cons (.set (.nm 10) (.call 23 (.cons (.var 3) (.cons (.var 4) (.cons (.var 5) .nil))))) (.cons (.set (.nm 11) (.call 11 (.cons (.var 1) (.cons (.alloc (.listRg (.lit (.int 0)) (.agg .len (.e (.var 3))))) .nil)))) (.cons (.set (.nm 12) (.call 8 (.cons (.agg .tuple (.q (.comp [ 13 ] (.nm 13) (.r (.e (.var 11))) (.agg .tuple (.e (.idx (.var 3) (.var 13))))))) (.cons (.agg .tuple (.e (.var 5))) .nil)))) (.cons (.ite (.or (.v (.isN (.var 10))) (.v (.isN (.var 12)))) (.cons (.ret (.and (.isN (.var 10)) (.isN (.var 12)))) .nil) .nil) b_law_4))))
def b_law : CSs := (.cons (.set (.nm 1) (.call 9 (.cons (.var 0) .nil))) (.cons (.set (.nm 2) (.bin .add (.lit (.int 1)) (.call 10 (.cons (.var 1) (.cons (.lit (.int 6)) .nil))))) (.cons (.set (.tup [ 3 , 4 ]) (.call 22 (.cons (.var 1) (.cons (.call 10 (.cons (.var 1) (.cons (.bin .add (.fn2 .min (.lit (.int 4)) (.var 2)) (.lit (.int 1))) .nil))) (.cons (.var 2) .nil))))) (.cons (.set (.nm 5) (.alloc (.comp [ 9 ] (.nm 9) (.rg (.lit (.int 0)) (.var 2)) (.tup (.cons (.lit (.int 0)) (.cons (.lit (.int 1)) .nil)))))) (.cons (.set (.nm 6) (.call 10 (.cons (.var 1) (.cons (.lit (.int 3)) .nil)))) (.cons (.ite (.v (.cmp .eq (.var 6) (.lit (.int 2)))) (.cons (.set (.nm 5) (.alloc (.comp [ 9 ] (.nm 9) (.rg (.lit (.int 0)) (.var 2)) (.call 21 (.cons (.var 1) .nil))))) .nil) (.cons (.for (.nm 7) (.r (.e (.var 3))) b_law_1) b_law_2)) b_law_3))))))
def T : List Fn := [⟨"frac", ["numerator", "denominator", "common"], 2, b_frac⟩,
  ⟨"minus", ["one", "other"], 2, b_minus⟩,
  ⟨"times", ["one", "other"], 2, b_times⟩,
  ⟨"over", ["one", "other"], 2, b_over⟩,
  ⟨"first_with", ["lines", "start", "column", "k"], 3, b_first_with⟩,
  ⟨"scaled", ["line", "pivot", "entry"], 2, b_scaled⟩,
  ⟨"cleared", ["line", "other", "column", "factor", "k"], 3, b_cleared⟩,
  ⟨"solution", ["lines", "unknowns", "rows", "column", "at", "chosen", "k", "line"], 2, b_solution⟩,
  ⟨"combination", ["rows", "row", "lines", "at", "known"], 2, b_combination⟩,
  ⟨"_law_begin", ["script", "cell"], 1, b__law_begin⟩,
  ⟨"_law_draw", ["d", "many", "found", "size", "cell"], 2, b__law_draw⟩,
  ⟨"_law_shuffled", ["d", "row", "left", "found", "k"], 2, b__law_shuffled⟩,
  ⟨"_law_some", ["d", "row", "many"], 3, b__law_some⟩,
  ⟨"_law_is_int", ["thing"], 1, b__law_is_int⟩,
  ⟨"_law_gcd", ["a", "b"], 2, b__law_gcd⟩,
  ⟨"_law_frac", ["n", "d", "common"], 2, b__law_frac⟩,
  ⟨"_law_is_frac", ["thing"], 1, b__law_is_frac⟩,
  ⟨"_law_plus", ["a", "b"], 2, b__law_plus⟩,
  ⟨"_law_minus", ["a", "b"], 2, b__law_minus⟩,
  ⟨"_law_times", ["a", "b"], 2, b__law_times⟩,
  ⟨"_law_over", ["a", "b"], 2, b__law_over⟩,
  ⟨"_law_some_frac", ["d"], 1, b__law_some_frac⟩,
  ⟨"_law_rows", ["d", "many", "wide", "places", "rows", "k", "row", "j", "at"], 3, b__law_rows⟩,
  ⟨"_law_cleared", ["rows", "places", "row", "left", "found", "k", "factor", "at", "entry"], 3, b__law_cleared⟩,
  ⟨"law", ["script", "d", "wide", "rows", "places", "row", "way", "known", "factor", "at", "due", "order", "told", "k", "entry"], 1, b_law⟩]
/-! ### the head -/
@[reducible] def dd (x : Str) (i : Nat) : He.DefD := ⟨(x, none), x, x, defArgs (top i), defBody (top i), defScope (top i), [], []⟩
def fn : List He.DefD := [dd "frac" 3, dd "minus" 4, dd "times" 5, dd "over" 6, dd "first_with" 8, dd "scaled" 9, dd "cleared" 10, dd "solution" 11, dd "combination" 12, dd "_law_begin" 14, dd "_law_draw" 15, dd "_law_shuffled" 16, dd "_law_some" 17, dd "_law_is_int" 18, dd "_law_gcd" 19, dd "_law_frac" 20, dd "_law_is_frac" 21, dd "_law_plus" 22, dd "_law_minus" 23, dd "_law_times" 24, dd "_law_over" 25, dd "_law_some_frac" 26, dd "_law_rows" 27, dd "_law_cleared" 28, dd "law" 29]
def fa : List He.Fa := (([.glo "frac", .glo "minus", .glo "times", .glo "over", .glo "first_with", .glo "scaled", .glo "cleared", .glo "solution", .glo "combination", .glo "_law_begin", .glo "_law_draw", .glo "_law_shuffled", .glo "_law_some", .glo "_law_is_int", .glo "_law_gcd", .glo "_law_frac", .glo "_law_is_frac", .glo "_law_plus", .glo "_law_minus", .glo "_law_times", .glo "_law_over", .glo "_law_some_frac", .glo "_law_rows", .glo "_law_cleared", .glo "law", .free "len", .free "range", .free "tuple", .free "int", .free "isinstance"] : List He.Fa) ++ ([.free "list", .free "min", .free "all", .free "abs", .free "bool"] : List He.Fa))
abbrev R : PySem.W.OpenRow := PySem.W.OpenLaw.row PySem.Challenge.rw_everygrown_k63_combinations
abbrev hk : PySem.W.Hook := PQ.hookP 4 fa fn Gs
def ob (s : PySem.W.SharedT) : He.AlD × Bool := PQ.obP 4 fa fn Gs (HandSHeadRun.getT s)
theorem ob_eq (s : PySem.W.SharedT) : ob s = hk.obs s.abs := PQ.obP_eq (HandSHeadRun.getT_eq s)
def loose : List Str := ["frac", "minus", "times", "over", "first_with", "scaled", "cleared", "solution", "combination", "_law_begin", "_law_draw", "_law_shuffled", "_law_some", "_law_is_int", "_law_gcd", "_law_frac", "_law_is_frac", "_law_plus", "_law_minus", "_law_times", "_law_over", "_law_some_frac", "_law_rows", "_law_cleared", "ZERO"]
theorem run (w : World) : HandSHeadRun.RunEqI R (PySem.W.view R.prog [0, 29]) hk ob 1500 loose w := by
  unfold HandSHeadRun.RunEqI
  kernel_rfl
/-! ### each def is what the language says -/
theorem c_frac : (cSs 60 60 ⟨names, B, ["numerator", "denominator", "common"], defScope (top 3), Gs⟩ (defBody (top 3))).map (·.val) = some b_frac := by kernel_rfl
theorem d_frac {K : Fg} {h : Heap} {mg : Str → Option Value} (X : K.In h) (G : h.Ns mainGlobals mg) (c : He.SaysD fa fn K) : DefOk K mg names B Gs ⟨"frac", ["numerator", "denominator", "common"], 2, b_frac⟩ :=
  def_ok (names := names) (B := B) (Gs := Gs) (N := ["numerator", "denominator", "common"]) (ps := ["numerator", "denominator"]) X G c 0 (st := top 3) rfl 0 rfl c_frac ⟨rfl, rfl, rfl, by decide +kernel, rfl, by decide +kernel, by decide +kernel⟩ rfl fun _ _ _ _ _ _ us hl => match us, hl with | [_, _], _ => rfl
theorem c_minus : (cSs 60 60 ⟨names, B, ["one", "other"], defScope (top 4), Gs⟩ (defBody (top 4))).map (·.val) = some b_minus := by kernel_rfl
theorem d_minus {K : Fg} {h : Heap} {mg : Str → Option Value} (X : K.In h) (G : h.Ns mainGlobals mg) (c : He.SaysD fa fn K) : DefOk K mg names B Gs ⟨"minus", ["one", "other"], 2, b_minus⟩ :=
  def_ok (names := names) (B := B) (Gs := Gs) (N := ["one", "other"]) (ps := ["one", "other"]) X G c 1 (st := top 4) rfl 1 rfl c_minus ⟨rfl, rfl, rfl, by decide +kernel, rfl, by decide +kernel, by decide +kernel⟩ rfl fun _ _ _ _ _ _ us hl => match us, hl with | [_, _], _ => rfl
theorem c_times : (cSs 60 60 ⟨names, B, ["one", "other"], defScope (top 5), Gs⟩ (defBody (top 5))).map (·.val) = some b_times := by kernel_rfl
theorem d_times {K : Fg} {h : Heap} {mg : Str → Option Value} (X : K.In h) (G : h.Ns mainGlobals mg) (c : He.SaysD fa fn K) : DefOk K mg names B Gs ⟨"times", ["one", "other"], 2, b_times⟩ :=
  def_ok (names := names) (B := B) (Gs := Gs) (N := ["one", "other"]) (ps := ["one", "other"]) X G c 2 (st := top 5) rfl 2 rfl c_times ⟨rfl, rfl, rfl, by decide +kernel, rfl, by decide +kernel, by decide +kernel⟩ rfl fun _ _ _ _ _ _ us hl => match us, hl with | [_, _], _ => rfl
theorem c_over : (cSs 60 60 ⟨names, B, ["one", "other"], defScope (top 6), Gs⟩ (defBody (top 6))).map (·.val) = some b_over := by kernel_rfl
theorem d_over {K : Fg} {h : Heap} {mg : Str → Option Value} (X : K.In h) (G : h.Ns mainGlobals mg) (c : He.SaysD fa fn K) : DefOk K mg names B Gs ⟨"over", ["one", "other"], 2, b_over⟩ :=
  def_ok (names := names) (B := B) (Gs := Gs) (N := ["one", "other"]) (ps := ["one", "other"]) X G c 3 (st := top 6) rfl 3 rfl c_over ⟨rfl, rfl, rfl, by decide +kernel, rfl, by decide +kernel, by decide +kernel⟩ rfl fun _ _ _ _ _ _ us hl => match us, hl with | [_, _], _ => rfl
theorem c_first_with : (cSs 60 60 ⟨names, B, ["lines", "start", "column", "k"], defScope (top 8), Gs⟩ (defBody (top 8))).map (·.val) = some b_first_with := by kernel_rfl
theorem d_first_with {K : Fg} {h : Heap} {mg : Str → Option Value} (X : K.In h) (G : h.Ns mainGlobals mg) (c : He.SaysD fa fn K) : DefOk K mg names B Gs ⟨"first_with", ["lines", "start", "column", "k"], 3, b_first_with⟩ :=
  def_ok (names := names) (B := B) (Gs := Gs) (N := ["lines", "start", "column", "k"]) (ps := ["lines", "start", "column"]) X G c 4 (st := top 8) rfl 4 rfl c_first_with ⟨rfl, rfl, rfl, by decide +kernel, rfl, by decide +kernel, by decide +kernel⟩ rfl fun _ _ _ _ _ _ us hl => match us, hl with | [_, _, _], _ => rfl
theorem c_scaled : (cSs 60 60 ⟨names, B, ["line", "pivot", "entry"], defScope (top 9), Gs⟩ (defBody (top 9))).map (·.val) = some b_scaled := by kernel_rfl
theorem d_scaled {K : Fg} {h : Heap} {mg : Str → Option Value} (X : K.In h) (G : h.Ns mainGlobals mg) (c : He.SaysD fa fn K) : DefOk K mg names B Gs ⟨"scaled", ["line", "pivot", "entry"], 2, b_scaled⟩ :=
  def_ok (names := names) (B := B) (Gs := Gs) (N := ["line", "pivot", "entry"]) (ps := ["line", "pivot"]) X G c 5 (st := top 9) rfl 5 rfl c_scaled ⟨rfl, rfl, rfl, by decide +kernel, rfl, by decide +kernel, by decide +kernel⟩ rfl fun _ _ _ _ _ _ us hl => match us, hl with | [_, _], _ => rfl
theorem c_cleared : (cSs 60 60 ⟨names, B, ["line", "other", "column", "factor", "k"], defScope (top 10), Gs⟩ (defBody (top 10))).map (·.val) = some b_cleared := by kernel_rfl
theorem d_cleared {K : Fg} {h : Heap} {mg : Str → Option Value} (X : K.In h) (G : h.Ns mainGlobals mg) (c : He.SaysD fa fn K) : DefOk K mg names B Gs ⟨"cleared", ["line", "other", "column", "factor", "k"], 3, b_cleared⟩ :=
  def_ok (names := names) (B := B) (Gs := Gs) (N := ["line", "other", "column", "factor", "k"]) (ps := ["line", "other", "column"]) X G c 6 (st := top 10) rfl 6 rfl c_cleared ⟨rfl, rfl, rfl, by decide +kernel, rfl, by decide +kernel, by decide +kernel⟩ rfl fun _ _ _ _ _ _ us hl => match us, hl with | [_, _, _], _ => rfl
theorem c_solution : (cSs 60 60 ⟨names, B, ["lines", "unknowns", "rows", "column", "at", "chosen", "k", "line"], defScope (top 11), Gs⟩ (defBody (top 11))).map (·.val) = some b_solution := by kernel_rfl
theorem d_solution {K : Fg} {h : Heap} {mg : Str → Option Value} (X : K.In h) (G : h.Ns mainGlobals mg) (c : He.SaysD fa fn K) : DefOk K mg names B Gs ⟨"solution", ["lines", "unknowns", "rows", "column", "at", "chosen", "k", "line"], 2, b_solution⟩ :=
  def_ok (names := names) (B := B) (Gs := Gs) (N := ["lines", "unknowns", "rows", "column", "at", "chosen", "k", "line"]) (ps := ["lines", "unknowns"]) X G c 7 (st := top 11) rfl 7 rfl c_solution ⟨rfl, rfl, rfl, by decide +kernel, rfl, by decide +kernel, by decide +kernel⟩ rfl fun _ _ _ _ _ _ us hl => match us, hl with | [_, _], _ => rfl
theorem c_combination : (cSs 60 60 ⟨names, B, ["rows", "row", "lines", "at", "known"], defScope (top 12), Gs⟩ (defBody (top 12))).map (·.val) = some b_combination := by kernel_rfl
theorem d_combination {K : Fg} {h : Heap} {mg : Str → Option Value} (X : K.In h) (G : h.Ns mainGlobals mg) (c : He.SaysD fa fn K) : DefOk K mg names B Gs ⟨"combination", ["rows", "row", "lines", "at", "known"], 2, b_combination⟩ :=
  def_ok (names := names) (B := B) (Gs := Gs) (N := ["rows", "row", "lines", "at", "known"]) (ps := ["rows", "row"]) X G c 8 (st := top 12) rfl 8 rfl c_combination ⟨rfl, rfl, rfl, by decide +kernel, rfl, by decide +kernel, by decide +kernel⟩ rfl fun _ _ _ _ _ _ us hl => match us, hl with | [_, _], _ => rfl
theorem c__law_begin : (cSs 60 60 ⟨names, B, ["script", "cell"], defScope (top 14), Gs⟩ (defBody (top 14))).map (·.val) = some b__law_begin := by kernel_rfl
theorem d__law_begin {K : Fg} {h : Heap} {mg : Str → Option Value} (X : K.In h) (G : h.Ns mainGlobals mg) (c : He.SaysD fa fn K) : DefOk K mg names B Gs ⟨"_law_begin", ["script", "cell"], 1, b__law_begin⟩ :=
  def_ok (names := names) (B := B) (Gs := Gs) (N := ["script", "cell"]) (ps := ["script"]) X G c 9 (st := top 14) rfl 9 rfl c__law_begin ⟨rfl, rfl, rfl, by decide +kernel, rfl, by decide +kernel, by decide +kernel⟩ rfl fun _ _ _ _ _ _ us hl => match us, hl with | [_], _ => rfl
theorem c__law_draw : (cSs 60 60 ⟨names, B, ["d", "many", "found", "size", "cell"], defScope (top 15), Gs⟩ (defBody (top 15))).map (·.val) = some b__law_draw := by kernel_rfl
theorem d__law_draw {K : Fg} {h : Heap} {mg : Str → Option Value} (X : K.In h) (G : h.Ns mainGlobals mg) (c : He.SaysD fa fn K) : DefOk K mg names B Gs ⟨"_law_draw", ["d", "many", "found", "size", "cell"], 2, b__law_draw⟩ :=
  def_ok (names := names) (B := B) (Gs := Gs) (N := ["d", "many", "found", "size", "cell"]) (ps := ["d", "many"]) X G c 10 (st := top 15) rfl 10 rfl c__law_draw ⟨rfl, rfl, rfl, by decide +kernel, rfl, by decide +kernel, by decide +kernel⟩ rfl fun _ _ _ _ _ _ us hl => match us, hl with | [_, _], _ => rfl
theorem c__law_shuffled : (cSs 60 60 ⟨names, B, ["d", "row", "left", "found", "k"], defScope (top 16), Gs⟩ (defBody (top 16))).map (·.val) = some b__law_shuffled := by kernel_rfl
theorem d__law_shuffled {K : Fg} {h : Heap} {mg : Str → Option Value} (X : K.In h) (G : h.Ns mainGlobals mg) (c : He.SaysD fa fn K) : DefOk K mg names B Gs ⟨"_law_shuffled", ["d", "row", "left", "found", "k"], 2, b__law_shuffled⟩ :=
  def_ok (names := names) (B := B) (Gs := Gs) (N := ["d", "row", "left", "found", "k"]) (ps := ["d", "row"]) X G c 11 (st := top 16) rfl 11 rfl c__law_shuffled ⟨rfl, rfl, rfl, by decide +kernel, rfl, by decide +kernel, by decide +kernel⟩ rfl fun _ _ _ _ _ _ us hl => match us, hl with | [_, _], _ => rfl
theorem c__law_some : (cSs 60 60 ⟨names, B, ["d", "row", "many"], defScope (top 17), Gs⟩ (defBody (top 17))).map (·.val) = some b__law_some := by kernel_rfl
theorem d__law_some {K : Fg} {h : Heap} {mg : Str → Option Value} (X : K.In h) (G : h.Ns mainGlobals mg) (c : He.SaysD fa fn K) : DefOk K mg names B Gs ⟨"_law_some", ["d", "row", "many"], 3, b__law_some⟩ :=
  def_ok (names := names) (B := B) (Gs := Gs) (N := ["d", "row", "many"]) (ps := ["d", "row", "many"]) X G c 12 (st := top 17) rfl 12 rfl c__law_some ⟨rfl, rfl, rfl, by decide +kernel, rfl, by decide +kernel, by decide +kernel⟩ rfl fun _ _ _ _ _ _ us hl => match us, hl with | [_, _, _], _ => rfl
theorem c__law_is_int : (cSs 60 60 ⟨names, B, ["thing"], defScope (top 18), Gs⟩ (defBody (top 18))).map (·.val) = some b__law_is_int := by kernel_rfl
theorem d__law_is_int {K : Fg} {h : Heap} {mg : Str → Option Value} (X : K.In h) (G : h.Ns mainGlobals mg) (c : He.SaysD fa fn K) : DefOk K mg names B Gs ⟨"_law_is_int", ["thing"], 1, b__law_is_int⟩ :=
  def_ok (names := names) (B := B) (Gs := Gs) (N := ["thing"]) (ps := ["thing"]) X G c 13 (st := top 18) rfl 13 rfl c__law_is_int ⟨rfl, rfl, rfl, by decide +kernel, rfl, by decide +kernel, by decide +kernel⟩ rfl fun _ _ _ _ _ _ us hl => match us, hl with | [_], _ => rfl
theorem c__law_gcd : (cSs 60 60 ⟨names, B, ["a", "b"], defScope (top 19), Gs⟩ (defBody (top 19))).map (·.val) = some b__law_gcd := by kernel_rfl
theorem d__law_gcd {K : Fg} {h : Heap} {mg : Str → Option Value} (X : K.In h) (G : h.Ns mainGlobals mg) (c : He.SaysD fa fn K) : DefOk K mg names B Gs ⟨"_law_gcd", ["a", "b"], 2, b__law_gcd⟩ :=
  def_ok (names := names) (B := B) (Gs := Gs) (N := ["a", "b"]) (ps := ["a", "b"]) X G c 14 (st := top 19) rfl 14 rfl c__law_gcd ⟨rfl, rfl, rfl, by decide +kernel, rfl, by decide +kernel, by decide +kernel⟩ rfl fun _ _ _ _ _ _ us hl => match us, hl with | [_, _], _ => rfl
theorem c__law_frac : (cSs 60 60 ⟨names, B, ["n", "d", "common"], defScope (top 20), Gs⟩ (defBody (top 20))).map (·.val) = some b__law_frac := by kernel_rfl
theorem d__law_frac {K : Fg} {h : Heap} {mg : Str → Option Value} (X : K.In h) (G : h.Ns mainGlobals mg) (c : He.SaysD fa fn K) : DefOk K mg names B Gs ⟨"_law_frac", ["n", "d", "common"], 2, b__law_frac⟩ :=
  def_ok (names := names) (B := B) (Gs := Gs) (N := ["n", "d", "common"]) (ps := ["n", "d"]) X G c 15 (st := top 20) rfl 15 rfl c__law_frac ⟨rfl, rfl, rfl, by decide +kernel, rfl, by decide +kernel, by decide +kernel⟩ rfl fun _ _ _ _ _ _ us hl => match us, hl with | [_, _], _ => rfl
theorem c__law_is_frac : (cSs 60 60 ⟨names, B, ["thing"], defScope (top 21), Gs⟩ (defBody (top 21))).map (·.val) = some b__law_is_frac := by kernel_rfl
theorem d__law_is_frac {K : Fg} {h : Heap} {mg : Str → Option Value} (X : K.In h) (G : h.Ns mainGlobals mg) (c : He.SaysD fa fn K) : DefOk K mg names B Gs ⟨"_law_is_frac", ["thing"], 1, b__law_is_frac⟩ :=
  def_ok (names := names) (B := B) (Gs := Gs) (N := ["thing"]) (ps := ["thing"]) X G c 16 (st := top 21) rfl 16 rfl c__law_is_frac ⟨rfl, rfl, rfl, by decide +kernel, rfl, by decide +kernel, by decide +kernel⟩ rfl fun _ _ _ _ _ _ us hl => match us, hl with | [_], _ => rfl
theorem c__law_plus : (cSs 60 60 ⟨names, B, ["a", "b"], defScope (top 22), Gs⟩ (defBody (top 22))).map (·.val) = some b__law_plus := by kernel_rfl
theorem d__law_plus {K : Fg} {h : Heap} {mg : Str → Option Value} (X : K.In h) (G : h.Ns mainGlobals mg) (c : He.SaysD fa fn K) : DefOk K mg names B Gs ⟨"_law_plus", ["a", "b"], 2, b__law_plus⟩ :=
  def_ok (names := names) (B := B) (Gs := Gs) (N := ["a", "b"]) (ps := ["a", "b"]) X G c 17 (st := top 22) rfl 17 rfl c__law_plus ⟨rfl, rfl, rfl, by decide +kernel, rfl, by decide +kernel, by decide +kernel⟩ rfl fun _ _ _ _ _ _ us hl => match us, hl with | [_, _], _ => rfl
theorem c__law_minus : (cSs 60 60 ⟨names, B, ["a", "b"], defScope (top 23), Gs⟩ (defBody (top 23))).map (·.val) = some b__law_minus := by kernel_rfl
theorem d__law_minus {K : Fg} {h : Heap} {mg : Str → Option Value} (X : K.In h) (G : h.Ns mainGlobals mg) (c : He.SaysD fa fn K) : DefOk K mg names B Gs ⟨"_law_minus", ["a", "b"], 2, b__law_minus⟩ :=
  def_ok (names := names) (B := B) (Gs := Gs) (N := ["a", "b"]) (ps := ["a", "b"]) X G c 18 (st := top 23) rfl 18 rfl c__law_minus ⟨rfl, rfl, rfl, by decide +kernel, rfl, by decide +kernel, by decide +kernel⟩ rfl fun _ _ _ _ _ _ us hl => match us, hl with | [_, _], _ => rfl
theorem c__law_times : (cSs 60 60 ⟨names, B, ["a", "b"], defScope (top 24), Gs⟩ (defBody (top 24))).map (·.val) = some b__law_times := by kernel_rfl
theorem d__law_times {K : Fg} {h : Heap} {mg : Str → Option Value} (X : K.In h) (G : h.Ns mainGlobals mg) (c : He.SaysD fa fn K) : DefOk K mg names B Gs ⟨"_law_times", ["a", "b"], 2, b__law_times⟩ :=
  def_ok (names := names) (B := B) (Gs := Gs) (N := ["a", "b"]) (ps := ["a", "b"]) X G c 19 (st := top 24) rfl 19 rfl c__law_times ⟨rfl, rfl, rfl, by decide +kernel, rfl, by decide +kernel, by decide +kernel⟩ rfl fun _ _ _ _ _ _ us hl => match us, hl with | [_, _], _ => rfl
theorem c__law_over : (cSs 60 60 ⟨names, B, ["a", "b"], defScope (top 25), Gs⟩ (defBody (top 25))).map (·.val) = some b__law_over := by kernel_rfl
theorem d__law_over {K : Fg} {h : Heap} {mg : Str → Option Value} (X : K.In h) (G : h.Ns mainGlobals mg) (c : He.SaysD fa fn K) : DefOk K mg names B Gs ⟨"_law_over", ["a", "b"], 2, b__law_over⟩ :=
  def_ok (names := names) (B := B) (Gs := Gs) (N := ["a", "b"]) (ps := ["a", "b"]) X G c 20 (st := top 25) rfl 20 rfl c__law_over ⟨rfl, rfl, rfl, by decide +kernel, rfl, by decide +kernel, by decide +kernel⟩ rfl fun _ _ _ _ _ _ us hl => match us, hl with | [_, _], _ => rfl
theorem c__law_some_frac : (cSs 60 60 ⟨names, B, ["d"], defScope (top 26), Gs⟩ (defBody (top 26))).map (·.val) = some b__law_some_frac := by kernel_rfl
theorem d__law_some_frac {K : Fg} {h : Heap} {mg : Str → Option Value} (X : K.In h) (G : h.Ns mainGlobals mg) (c : He.SaysD fa fn K) : DefOk K mg names B Gs ⟨"_law_some_frac", ["d"], 1, b__law_some_frac⟩ :=
  def_ok (names := names) (B := B) (Gs := Gs) (N := ["d"]) (ps := ["d"]) X G c 21 (st := top 26) rfl 21 rfl c__law_some_frac ⟨rfl, rfl, rfl, by decide +kernel, rfl, by decide +kernel, by decide +kernel⟩ rfl fun _ _ _ _ _ _ us hl => match us, hl with | [_], _ => rfl
theorem c__law_rows : (cSs 60 60 ⟨names, B, ["d", "many", "wide", "places", "rows", "k", "row", "j", "at"], defScope (top 27), Gs⟩ (defBody (top 27))).map (·.val) = some b__law_rows := by kernel_rfl
theorem d__law_rows {K : Fg} {h : Heap} {mg : Str → Option Value} (X : K.In h) (G : h.Ns mainGlobals mg) (c : He.SaysD fa fn K) : DefOk K mg names B Gs ⟨"_law_rows", ["d", "many", "wide", "places", "rows", "k", "row", "j", "at"], 3, b__law_rows⟩ :=
  def_ok (names := names) (B := B) (Gs := Gs) (N := ["d", "many", "wide", "places", "rows", "k", "row", "j", "at"]) (ps := ["d", "many", "wide"]) X G c 22 (st := top 27) rfl 22 rfl c__law_rows ⟨rfl, rfl, rfl, by decide +kernel, rfl, by decide +kernel, by decide +kernel⟩ rfl fun _ _ _ _ _ _ us hl => match us, hl with | [_, _, _], _ => rfl
theorem c__law_cleared : (cSs 60 60 ⟨names, B, ["rows", "places", "row", "left", "found", "k", "factor", "at", "entry"], defScope (top 28), Gs⟩ (defBody (top 28))).map (·.val) = some b__law_cleared := by kernel_rfl
theorem d__law_cleared {K : Fg} {h : Heap} {mg : Str → Option Value} (X : K.In h) (G : h.Ns mainGlobals mg) (c : He.SaysD fa fn K) : DefOk K mg names B Gs ⟨"_law_cleared", ["rows", "places", "row", "left", "found", "k", "factor", "at", "entry"], 3, b__law_cleared⟩ :=
  def_ok (names := names) (B := B) (Gs := Gs) (N := ["rows", "places", "row", "left", "found", "k", "factor", "at", "entry"]) (ps := ["rows", "places", "row"]) X G c 23 (st := top 28) rfl 23 rfl c__law_cleared ⟨rfl, rfl, rfl, by decide +kernel, rfl, by decide +kernel, by decide +kernel⟩ rfl fun _ _ _ _ _ _ us hl => match us, hl with | [_, _, _], _ => rfl
theorem c_law : (cSs 60 60 ⟨names, B, ["script", "d", "wide", "rows", "places", "row", "way", "known", "factor", "at", "due", "order", "told", "k", "entry"], defScope (top 29), Gs⟩ (defBody (top 29))).map (·.val) = some b_law := by kernel_rfl
theorem d_law {K : Fg} {h : Heap} {mg : Str → Option Value} (X : K.In h) (G : h.Ns mainGlobals mg) (c : He.SaysD fa fn K) : DefOk K mg names B Gs ⟨"law", ["script", "d", "wide", "rows", "places", "row", "way", "known", "factor", "at", "due", "order", "told", "k", "entry"], 1, b_law⟩ :=
  def_ok (names := names) (B := B) (Gs := Gs) (N := ["script", "d", "wide", "rows", "places", "row", "way", "known", "factor", "at", "due", "order", "told", "k", "entry"]) (ps := ["script"]) X G c 24 (st := top 29) rfl 24 rfl c_law ⟨rfl, rfl, rfl, by decide +kernel, rfl, by decide +kernel, by decide +kernel⟩ rfl fun _ _ _ _ _ _ us hl => match us, hl with | [_], _ => rfl
theorem defs {K : Fg} {h : Heap} {mg : Str → Option Value} (X : K.In h) (G : h.Ns mainGlobals mg) (c : He.SaysD fa fn K) : ∀ f ∈ T, DefOk K mg names B Gs f := by
  intro f hf
  simp only [T, List.mem_cons, List.not_mem_nil, or_false] at hf
  rcases hf with rfl | rfl | rfl | rfl | rfl | rfl | rfl | rfl | rfl | rfl | rfl | rfl | rfl | rfl | rfl | rfl | rfl | rfl | rfl | rfl | rfl | rfl | rfl | rfl | rfl
  · exact d_frac X G c
  · exact d_minus X G c
  · exact d_times X G c
  · exact d_over X G c
  · exact d_first_with X G c
  · exact d_scaled X G c
  · exact d_cleared X G c
  · exact d_solution X G c
  · exact d_combination X G c
  · exact d__law_begin X G c
  · exact d__law_draw X G c
  · exact d__law_shuffled X G c
  · exact d__law_some X G c
  · exact d__law_is_int X G c
  · exact d__law_gcd X G c
  · exact d__law_frac X G c
  · exact d__law_is_frac X G c
  · exact d__law_plus X G c
  · exact d__law_minus X G c
  · exact d__law_times X G c
  · exact d__law_over X G c
  · exact d__law_some_frac X G c
  · exact d__law_rows X G c
  · exact d__law_cleared X G c
  · exact d_law X G c
theorem frees {K : Fg} {h : Heap} {mg : Str → Option Value} (X : K.In h) (G : h.Ns mainGlobals mg) (c : He.SaysD fa fn K) : ∀ x ∈ B, mg x = none := by
  intro x hx
  simp only [B, List.mem_cons, List.not_mem_nil, or_false] at hx
  rcases hx with rfl | rfl | rfl | rfl | rfl | rfl | rfl | rfl | rfl | rfl
  · exact He.free_ok X G (c.fact 25 (f := .free "len") rfl)
  · exact He.free_ok X G (c.fact 26 (f := .free "range") rfl)
  · exact He.free_ok X G (c.fact 27 (f := .free "tuple") rfl)
  · exact He.free_ok X G (c.fact 28 (f := .free "int") rfl)
  · exact He.free_ok X G (c.fact 29 (f := .free "isinstance") rfl)
  · exact He.free_ok X G (c.fact 30 (f := .free "list") rfl)
  · exact He.free_ok X G (c.fact 31 (f := .free "min") rfl)
  · exact He.free_ok X G (c.fact 32 (f := .free "all") rfl)
  · exact He.free_ok X G (c.fact 33 (f := .free "abs") rfl)
  · exact He.free_ok X G (c.fact 34 (f := .free "bool") rfl)
end K63
section
open PySem PySem.Spec PyProof.Rows L2 PQ
namespace K63
local macro_rules
  | `(tactic| mul_fits) => `(tactic| (repeat (first
    | (with_reducible refine PQ.w_scons ?_)
    | ((with_reducible apply PQ.w_var); (focus (exact rfl)))
    | (with_reducible refine PQ.w_bin ?_)
    | (with_reducible refine PQ.w_call ?_)
    | (with_reducible refine PQ.w_cons ?_)
    | (with_reducible refine PQ.w_nil ?_)
    | (with_reducible refine PQ.w_lit ?_)
    | (with_reducible refine PQ.w_cmp ?_)
    | (with_reducible refine PQ.w_idx ?_)
    | (with_reducible refine PQ.w_set ?_)
    | (with_reducible refine PQ.w_ret ?_)
    | (with_reducible refine PQ.w_ite ?_)
    | (with_reducible refine PQ.w_tv ?_)
    | (with_reducible refine PQ.w_tnot ?_)
    | (with_reducible refine PQ.w_nx ?_)
    | (with_reducible refine PQ.w_rt ?_)
    | (with_reducible refine PQ.w_if_t ?_)
    | (with_reducible refine PQ.w_if_f ?_)
    | (with_reducible refine PQ.w_if_nt ?_)
    | (with_reducible refine PQ.w_if_nf ?_)
    | (with_reducible refine PQ.w_tru_b ?_)
    | (with_reducible refine PQ.w_tru_i ?_)
    | (with_reducible refine PQ.w_tru_t ?_)
    | (with_reducible refine PQ.w_ok ?_)
    | (with_reducible refine PQ.w_snil ?_)
    | (with_reducible refine PQ.w_ex ?_)
    | (with_reducible refine PQ.w_agg ?_)
    | (with_reducible refine PQ.w_fn1 ?_)
    | (with_reducible refine PQ.w_fn2 ?_)
    | (with_reducible refine PQ.w_tup ?_)
    | (with_reducible refine PQ.w_alloc ?_)
    | (with_reducible refine PQ.w_disp ?_)
    | (with_reducible refine PQ.w_e ?_)
    | (with_reducible refine PQ.w_q ?_)
    | (with_reducible refine PQ.w_ir ?_)
    | (with_reducible refine PQ.w_for ?_)
    | (with_reducible refine PQ.w_comp ?_)
    | (with_reducible refine PQ.w_compIf ?_)
    | (with_reducible refine PQ.w_and ?_)
    | (with_reducible refine PQ.w_or ?_)
    | (with_reducible refine PQ.w_not ?_)
    | (with_reducible refine PQ.w_ife ?_)
    | (with_reducible refine PQ.w_slc ?_)
    | (with_reducible refine PQ.w_oN ?_)
    | (with_reducible refine PQ.w_isi ?_)
    | (with_reducible refine PQ.w_app ?_)
    | (with_reducible refine PQ.w_ext ?_)
    | (with_reducible refine PQ.w_pop ?_)
    | (with_reducible refine PQ.w_popAt ?_)
    | (with_reducible refine PQ.w_join ?_)
    | (with_reducible refine PQ.w_isN ?_)
    | (with_reducible refine PQ.w_notN ?_)
    | (with_reducible refine PQ.w_inr ?_)
    | (with_reducible refine PQ.w_notInr ?_)
    | (with_reducible refine PQ.w_chn ?_)
    | (with_reducible refine PQ.w_tand ?_)
    | (with_reducible refine PQ.w_tor ?_)
    | (with_reducible refine PQ.w_cat ?_)
    | (with_reducible refine PQ.w_sorted ?_)
    | (with_reducible refine PQ.w_list ?_)
    | (with_reducible refine PQ.w_rev ?_)
    | (with_reducible refine PQ.w_setT ?_)
    | (with_reducible refine PQ.w_par ?_)
    | (with_reducible refine PQ.w_sub ?_)
    | (with_reducible refine PQ.w_bk ?_)
    | (with_reducible refine PQ.w_ct ?_)
    | (with_reducible refine PQ.w_brk ?_)
    | (with_reducible refine PQ.w_cont ?_)
    | (with_reducible refine PQ.w_pass ?_)
    | (with_reducible refine PQ.v_add ?_)
    | (with_reducible refine PQ.v_sub ?_)
    | (with_reducible refine PQ.v_band ?_)
    | (with_reducible refine PQ.v_bor ?_)
    | (with_reducible refine PQ.v_bxor ?_)
    | (with_reducible refine PQ.v_augAdd ?_)
    | (with_reducible refine PQ.v_augSub ?_)
    | (with_reducible refine PQ.v_lt ?_)
    | (with_reducible refine PQ.v_le ?_)
    | (with_reducible refine PQ.v_gt ?_)
    | (with_reducible refine PQ.v_ge ?_)
    | (with_reducible refine PQ.v_eq ?_)
    | (with_reducible refine PQ.v_ne ?_)
    | (with_reducible refine PQ.v_eqS ?_)
    | (with_reducible refine PQ.v_neS ?_)
    | (with_reducible refine PQ.v_eqB ?_)
    | (with_reducible refine PQ.v_intI ?_)
    | (with_reducible refine PQ.v_intB ?_)
    | (with_reducible refine PQ.v_abs ?_)
    | (with_reducible refine PQ.v_gcd ?_)
    | (with_reducible refine PQ.v_min2 ?_)
    | (with_reducible refine PQ.v_max2 ?_)
    | (with_reducible refine PQ.v_slcT ?_)
    | (with_reducible refine PQ.w_bind ?_)
    | (with_reducible refine PQ.r_nx ?_)
    | (with_reducible refine PQ.r_rt ?_)
    | (with_reducible refine PQ.g_self ?_)
    | ((with_reducible apply PQ.w_aug); (focus (exact rfl)))
    | (with_reducible refine PQ.w_neg ?_)
    | (with_reducible refine PQ.w_oS ?_)
    | (with_reducible refine PQ.w_listRg ?_)
    | (with_reducible refine PQ.w_rg ?_)
    | (with_reducible refine PQ.w_augS ?_)
    | ((with_reducible apply PQ.v_mul); (focus (first | assumption | exact .of_left (by decide +kernel) | exact .of_right (by decide +kernel))))
    | ((with_reducible apply PQ.v_fdiv); (focus (first | assumption | exact ⟨by omega, PyProof.noPylong_small (by omega)⟩)))
    | ((with_reducible apply PQ.v_mod); (focus (first | assumption | omega)))
    | ((with_reducible apply PQ.v_pow); (focus (first | assumption | (unfold CPow; decide +kernel) | (unfold CPow; omega))))
    | ((with_reducible apply PQ.v_shl); (focus (first | assumption | (unfold CPow; decide +kernel) | (unfold CPow; omega))))
    | ((with_reducible apply PQ.v_shr); (focus (first | assumption | omega)))
    | ((with_reducible apply PQ.v_idx); (focus (first | exact rfl | assumption)); (focus (first | exact rfl | assumption)))
    | ((with_reducible apply PQ.v_idxT); (focus (first | exact rfl | assumption)))
    | ((with_reducible apply PQ.v_idxF); (focus (first | exact rfl | assumption)))
    | ((with_reducible apply PQ.v_len); (focus (first | exact rfl | assumption)))
    | ((with_reducible apply PQ.v_tuple); (focus (first | exact rfl | assumption)))
    | ((with_reducible apply PQ.v_sum); (focus (first | exact rfl | assumption)); (focus (first | exact rfl | assumption)))
    | ((with_reducible apply PQ.v_all); (focus (first | exact rfl | assumption)); (focus (first | exact rfl | assumption)))
    | ((with_reducible apply PQ.v_any); (focus (first | exact rfl | assumption)); (focus (first | exact rfl | assumption)))
    | ((with_reducible apply PQ.v_slc); (focus (first | exact rfl | assumption)))
    | ((with_reducible apply PQ.v_set); (focus (first | exact rfl | assumption)); (focus (first | exact rfl | assumption)))
    | ((with_reducible apply PQ.v_lenS); (focus (refine Nat.le_trans (Nat.le_refl _) ?_; first | assumption | (refine PQ.le64 ?_; simp; done) | omega)))
    | ((with_reducible apply PQ.v_idxS); (focus (refine Nat.le_trans (Nat.le_refl _) ?_; first | assumption | (refine PQ.le64 ?_; simp; done) | omega)); (focus (first | exact rfl | assumption)))
    | ((with_reducible apply PQ.w_withL); (focus (first | exact rfl | assumption)))
    | ((with_reducible apply PQ.v_app); (focus (first | exact rfl | assumption)); (focus (first | assumption | exact Nat.lt_of_lt_of_le (Nat.lt_succ_self _) (Nat.le_of_ble_eq_true rfl) | omega)))
    | ((with_reducible apply PQ.v_addT); (focus (refine Nat.le_trans (Nat.le_refl _) ?_; first | assumption | (refine PQ.le64 ?_; simp; done) | omega)))
    | ((with_reducible apply PQ.v_addS); (focus (refine Nat.le_trans (Nat.le_refl _) ?_; first | assumption | (refine PQ.le64 ?_; simp; done) | omega)))
    | ((with_reducible apply PQ.v_addL); (focus (first | exact rfl | assumption)); (focus (first | exact rfl | assumption)); (focus (refine Nat.le_trans (Nat.le_refl _) ?_; first | assumption | (refine PQ.le64 ?_; simp; done) | omega)))
    | ((with_reducible apply PQ.w_tru_r); (focus (first | exact rfl | assumption)))
    | ((with_reducible apply PQ.w_if_T); (focus (exact rfl)))
    | ((with_reducible apply PQ.w_if_F); (focus (exact rfl)))
    | ((with_reducible apply PQ.w_may); (focus (exact rfl)))
    | ((with_reducible refine ⟨_, rfl, ?_⟩))
    | ((with_reducible apply PQ.w_augK); (focus (first | exact rfl | assumption)); (focus (first | exact rfl | assumption)))
    | ((with_reducible refine ⟨_, _, rfl, rfl, ?_, ?_⟩); (focus (first | assumption | (unfold bd62; omega) | (unfold RgOk; omega))))
    | ((with_reducible refine ⟨?_, ?_⟩); (focus (refine Nat.le_trans (Nat.le_refl _) ?_; first | assumption | (refine PQ.le64 ?_; simp; done) | omega))))))
/-! ### fractions as rational numbers -/
def qD (q : Rat) : D := .tup [.int q.num, .int (q.den : Int)]
def QB (n : Nat) (q : Rat) : Prop := q.num.natAbs < 2 ^ n ∧ q.den < 2 ^ n
theorem QB.mono {m n : Nat} {q : Rat} (h : QB m q) (hm : m ≤ n) : QB n q := ⟨Nat.lt_of_lt_of_le h.1 (Nat.pow_le_pow_right (by decide) hm), Nat.lt_of_lt_of_le h.2 (Nat.pow_le_pow_right (by decide) hm)⟩
def gg (n d : Int) : Int := ((Nat.gcd n.natAbs d.natAbs : Nat) : Int)
theorem gg_pos {n d : Int} (hd : d ≠ 0) : 0 < gg n d := by
  unfold gg
  have := Nat.gcd_pos_of_pos_right n.natAbs (n := d.natAbs) (by omega)
  omega
theorem gg_bd {n d : Int} {k : Nat} (hd : d ≠ 0) (h : d.natAbs < 2 ^ k) : (gg n d).natAbs < 2 ^ k := by
  unfold gg
  have := Nat.le_of_dvd (by omega) (Nat.gcd_dvd_right n.natAbs d.natAbs)
  rw [Int.natAbs_natCast]
  omega
theorem gg_neg {n d : Int} : gg (-n) (-d) = gg n d := by
  unfold gg
  rw [Int.natAbs_neg, Int.natAbs_neg]
theorem div_pos {n d : Int} (hd : 0 < d) : (Rat.divInt n d).num = n.fdiv (gg n d) ∧ ((Rat.divInt n d).den : Int) = d.fdiv (gg n d) := by
  have hg := gg_pos (n := n) (d := d) (by omega)
  have eg : ((d.gcd n : Nat) : Int) = gg n d := by
    unfold gg
    rw [Int.gcd_comm]
    rfl
  rw [Rat.num_divInt, Rat.den_divInt, if_neg (by omega), Int.sign_eq_one_of_pos hd, Int.one_mul, eg, Int.fdiv_eq_ediv_of_nonneg _ (Int.le_of_lt hg), Int.fdiv_eq_ediv_of_nonneg _ (Int.le_of_lt hg)]
  refine ⟨rfl, ?_⟩
  rw [Int.natCast_ediv, eg, Int.natAbs_of_nonneg (Int.le_of_lt hd)]
theorem div_neg {n d : Int} (hd : d < 0) : (Rat.divInt n d).num = (-n).fdiv (gg n d) ∧ ((Rat.divInt n d).den : Int) = (-d).fdiv (gg n d) := by
  have h := div_pos (n := -n) (d := -d) (by omega)
  rw [gg_neg, Rat.neg_divInt_neg] at h
  exact h
section
variable {k : Nat} {S : Sto} {Q : D → Sto → Prop} {n d a b c e : Int}
theorem qD_pos (hd : 0 < d) : qD (Rat.divInt n d) = .tup [.int (n.fdiv (gg n d)), .int (d.fdiv (gg n d))] := by
  unfold qD
  rw [(div_pos hd).1, (div_pos hd).2]
theorem qD_neg (hd : d < 0) : qD (Rat.divInt n d) = .tup [.int ((-n).fdiv (gg n d)), .int ((-d).fdiv (gg n d))] := by
  unfold qD
  rw [(div_neg hd).1, (div_neg hd).2]
theorem frac_w (hd : d ≠ 0) (hb : d.natAbs < 2 ^ 3000) (h : Q (qD (Rat.divInt n d)) S) : W (orc T (k + 1) 0 [.int n, .int d] S) Q := by
  refine orc_w (ρ := [some (.int n), some (.int d), none]) rfl rfl rfl ?_
  show W (evSs _ b_frac _ _) _
  simp only [b_frac]
  have hg := gg_pos (n := n) hd
  have hgb := bd_mono (gg_bd (n := n) hd hb) (by decide : 3000 ≤ 8000)
  mul_fits
  refine w_ifd (fun c => ?_) fun c => ?_
  · have hgb2 : (-gg n d).natAbs < 2 ^ 8000 := by rwa [Int.natAbs_neg]
    have k1 : FDivOk n (-gg n d) := fdiv_small (by omega) hgb2 n
    have k2 : FDivOk d (-gg n d) := fdiv_small (by omega) hgb2 d
    mul_fits
    simp only [b_frac_1]
    mul_fits
    rw [qD_neg c, ← Int.neg_fdiv_neg (-n), ← Int.neg_fdiv_neg (-d), Int.neg_neg, Int.neg_neg] at h
    exact h
  · have k1 : FDivOk n (gg n d) := fdiv_small (by omega) hgb n
    have k2 : FDivOk d (gg n d) := fdiv_small (by omega) hgb d
    mul_fits
    simp only [b_frac_1]
    mul_fits
    rw [qD_pos (by omega)] at h
    exact h
theorem gcd_w (ha : a.natAbs < 2 ^ 3000) (hb : b.natAbs < 2 ^ 3000) (h : Q (.int (gg a b)) S) : W (orc T (k + 1) 14 [.int a, .int b] S) Q := by
  refine orc_w (ρ := [some (.int a), some (.int b)]) rfl rfl rfl ?_
  show W (evSs _ b__law_gcd _ _) _
  simp only [b__law_gcd]
  mul_fits
  have abs_ : ∀ x : Int, (if x < 0 then -x else x) = ((x.natAbs : Nat) : Int) := fun x => by split <;> omega
  rw [abs_, abs_]
  refine while_w (fun m ρ S' => S' = S ∧ ∃ x y : Nat, ρ = [some (.int (x : Int)), some (.int (y : Int))] ∧ Nat.gcd x y = Nat.gcd a.natAbs b.natAbs ∧ (y = 0 ∨ (y < x ∧ x * y < 2 ^ m) ∨ ∃ m', m = m' + 1 ∧ y * y < 2 ^ m')) ?_ 6001 _ _ _ (by decide) ⟨rfl, _, _, rfl, rfl, .inr (.inr ⟨6000, rfl, ?_⟩)⟩
  · rintro m ρ S' ⟨rfl, x, y, rfl, hg, hc⟩
    mul_fits
    refine ⟨fun z => ?_, fun z => ?_⟩
    · have y0 : y ≠ 0 := by
        intro q
        subst q
        simp at z
      have hz : ∀ m', y * (x % y) < 2 ^ m' ∨ False → (x % y = 0 ∨ (x % y < y ∧ y * (x % y) < 2 ^ m') ∨ ∃ m'', m' = m'' + 1 ∧ (x % y) * (x % y) < 2 ^ m'') := fun m' hm => .inr (.inl ⟨Nat.mod_lt _ (by omega), by simpa using hm⟩)
      have em : (((x : Nat) : Int).fmod ((y : Nat) : Int)) = ((x % y : Nat) : Int) := by
        rw [Int.fmod_eq_emod_of_nonneg _ (by omega)]
        rfl
      have go : ∀ m', y * (x % y) < 2 ^ m' → W (evSs (orc T k) b__law_gcd_1 [some (.int (x : Int)), some (.int (y : Int))] S') fun fl S2 => ∃ ρ', (fl = .nx ρ' ∨ fl = .ct ρ') ∧ S2 = S' ∧ ∃ x y : Nat, ρ' = [some (.int (x : Int)), some (.int (y : Int))] ∧ Nat.gcd x y = Nat.gcd a.natAbs b.natAbs ∧ (y = 0 ∨ (y < x ∧ x * y < 2 ^ m') ∨ ∃ m'', m' = m'' + 1 ∧ y * y < 2 ^ m'') := by
        intro m' hm
        simp only [b__law_gcd_1]
        mul_fits
        rw [em]
        exact ⟨_, .inl rfl, rfl, y, x % y, rfl, by rw [← hg, Nat.gcd_comm y, ← Nat.gcd_rec, Nat.gcd_comm], hz m' (.inl hm)⟩
      rcases hc with hc | ⟨h1, h2⟩ | ⟨m', rfl, h2⟩
      · exact absurd hc y0
      · cases m with
        | zero =>
          have : 1 ≤ x * y := Nat.mul_pos (by omega) (by omega)
          omega
        | succ m =>
          refine ⟨m, rfl, go m ?_⟩
          have q1 : x % y < y := Nat.mod_lt _ (by omega)
          have q2 : x % y + y ≤ x := by
            have := Nat.mod_add_div x y
            have q3 : 1 ≤ x / y := Nat.div_pos (by omega) (by omega)
            have : y * 1 ≤ y * (x / y) := Nat.mul_le_mul_left y q3
            omega
          have q4 : y * (2 * (x % y)) ≤ y * x := Nat.mul_le_mul_left y (by omega)
          rw [Nat.pow_succ] at h2
          have q5 : y * (2 * (x % y)) = 2 * (y * (x % y)) := by rw [Nat.mul_left_comm]
          have q6 : x * y = y * x := Nat.mul_comm _ _
          omega
      · refine ⟨m', rfl, go m' (Nat.lt_of_le_of_lt (Nat.mul_le_mul_left y (Nat.le_of_lt (Nat.mod_lt _ (by omega)))) h2)⟩
    · have y0 : y = 0 := by
        simp at z
        omega
      subst y0
      mul_fits
      simp only [b__law_gcd_2]
      mul_fits
      unfold gg at h
      rw [← hg, Nat.gcd_zero_right] at h
      exact h
  · have : b.natAbs * b.natAbs < 2 ^ 3000 * 2 ^ 3000 := Nat.mul_lt_mul_of_lt_of_le hb (Nat.le_of_lt hb) (Nat.two_pow_pos _)
    rw [← Nat.pow_add] at this
    exact this
theorem lfrac_w (hd : d ≠ 0) (hn : n.natAbs < 2 ^ 3000) (hb : d.natAbs < 2 ^ 3000) (h : Q (qD (Rat.divInt n d)) S) : W (orc T (k + 2) 15 [.int n, .int d] S) Q := by
  refine orc_w (ρ := [some (.int n), some (.int d), none]) rfl rfl rfl ?_
  show W (evSs _ b__law_frac _ _) _
  simp only [b__law_frac]
  have hg := gg_pos (n := n) hd
  have hgb := bd_mono (gg_bd (n := n) hd hb) (by decide : 3000 ≤ 8000)
  mul_fits
  refine w_ifd (fun c => ?_) fun c => ?_
  · have k1 : FDivOk (-n) (gg (-n) (-d)) := by rw [gg_neg]; exact fdiv_small (by omega) hgb _
    have k2 : FDivOk (-d) (gg (-n) (-d)) := by rw [gg_neg]; exact fdiv_small (by omega) hgb _
    mul_fits
    simp only [b__law_frac_1]
    mul_fits
    refine gcd_w (by rwa [Int.natAbs_neg]) (by rwa [Int.natAbs_neg]) ?_
    mul_fits
    rw [qD_neg c, ← gg_neg] at h
    exact h
  · have k1 : FDivOk n (gg n d) := fdiv_small (by omega) hgb n
    have k2 : FDivOk d (gg n d) := fdiv_small (by omega) hgb d
    mul_fits
    simp only [b__law_frac_1]
    mul_fits
    refine gcd_w hn hb ?_
    mul_fits
    rw [qD_pos (by omega)] at h
    exact h
end
/-! ### the four operations -/
section
variable {k : Nat} {S : Sto} {Q : D → Sto → Prop} {a b : Rat} {m n : Nat}
theorem den_ne (a : Rat) : ((a.den : Nat) : Int) ≠ 0 := by
  have := a.den_nz
  omega
theorem num_ne (h : a ≠ 0) : a.num ≠ 0 := fun z => h (Rat.num_eq_zero.mp z)
theorem sub_eq : Rat.divInt (a.num * (b.den : Int) - b.num * (a.den : Int)) ((a.den : Int) * (b.den : Int)) = a - b := by
  rw [← Rat.divInt_sub_divInt _ _ (den_ne a) (den_ne b), Rat.num_divInt_den, Rat.num_divInt_den]
theorem add_eq : Rat.divInt (a.num * (b.den : Int) + b.num * (a.den : Int)) ((a.den : Int) * (b.den : Int)) = a + b := by
  rw [← Rat.divInt_add_divInt _ _ (den_ne a) (den_ne b), Rat.num_divInt_den, Rat.num_divInt_den]
theorem mul_eq : Rat.divInt (a.num * b.num) ((a.den : Int) * (b.den : Int)) = a * b := by
  rw [← Rat.divInt_mul_divInt, Rat.num_divInt_den, Rat.num_divInt_den]
theorem div_eq : Rat.divInt (a.num * (b.den : Int)) ((a.den : Int) * b.num) = a / b := by
  rw [← Rat.divInt_mul_divInt, Rat.num_divInt_den, Rat.div_def, Rat.inv_def]
/-- the parts of a fraction in lowest terms are not greater than those it is made of -/
theorem divInt_bd {x y : Int} {n : Nat} (hy : y ≠ 0) (hx : x.natAbs < 2 ^ n) (hb : y.natAbs < 2 ^ n) : QB n (Rat.divInt x y) := by
  have hg : 0 < y.gcd x := Nat.gcd_pos_of_pos_left _ (by omega)
  refine ⟨?_, ?_⟩
  · rw [Rat.num_divInt]
    have h1 := Int.natAbs_ediv_le_natAbs (y.sign * x) ((y.gcd x : Nat) : Int)
    have h2 : (y.sign * x).natAbs = x.natAbs := by
      rw [Int.natAbs_mul, Int.natAbs_sign_of_ne_zero hy, Nat.one_mul]
    omega
  · rw [Rat.den_divInt, if_neg hy]
    have := Nat.div_le_self y.natAbs (y.gcd x)
    omega
theorem n2 {q : Rat} (h : QB m q) : ((q.den : Nat) : Int).natAbs < 2 ^ m := by
  rw [Int.natAbs_natCast]
  exact h.2
theorem QB.sub (ha : QB m a) (hb : QB n b) : QB (m + n + 1) (a - b) := by
  rw [← sub_eq]
  refine divInt_bd (Int.mul_ne_zero (den_ne a) (den_ne b)) ?_ (bd_mono (mul_bd (n2 ha) (n2 hb)) (by omega))
  exact sub_bd (mul_bd ha.1 (n2 hb)) (by rw [Nat.add_comm m n]; exact mul_bd hb.1 (n2 ha))
theorem QB.add (ha : QB m a) (hb : QB n b) : QB (m + n + 1) (a + b) := by
  rw [← add_eq]
  refine divInt_bd (Int.mul_ne_zero (den_ne a) (den_ne b)) ?_ (bd_mono (mul_bd (n2 ha) (n2 hb)) (by omega))
  exact add_bd (mul_bd ha.1 (n2 hb)) (by rw [Nat.add_comm m n]; exact mul_bd hb.1 (n2 ha))
theorem QB.mul (ha : QB m a) (hb : QB n b) : QB (m + n) (a * b) := by
  rw [← mul_eq]
  exact divInt_bd (Int.mul_ne_zero (den_ne a) (den_ne b)) (mul_bd ha.1 hb.1) (mul_bd (n2 ha) (n2 hb))
theorem QB.div (ha : QB m a) (hb : QB n b) (h0 : b ≠ 0) : QB (m + n) (a / b) := by
  rw [← div_eq]
  exact divInt_bd (Int.mul_ne_zero (den_ne a) (num_ne h0)) (mul_bd ha.1 (n2 hb)) (mul_bd (n2 ha) hb.1)
theorem ok_nd {m n : Nat} {x y : Int} (hx : x.natAbs < 2 ^ m) (hy : y.natAbs < 2 ^ n) (h : m + n + 1 ≤ 3000) : IntMulOk x y := mul_okb hx hy (by omega)
theorem minus_w (ha : QB m a) (hb : QB n b) (hm : m + n + 1 ≤ 3000) (h : Q (qD (a - b)) S) : W (orc T (k + 2) 1 [qD a, qD b] S) Q := by
  refine orc_w (ρ := [some (qD a), some (qD b)]) rfl rfl rfl ?_
  show W (evSs _ b_minus _ _) _
  simp only [b_minus, qD]
  have m1 := ok_nd ha.1 (n2 hb) hm
  have m2 := ok_nd hb.1 (n2 ha) (by omega)
  have m3 := ok_nd (n2 ha) (n2 hb) hm
  mul_fits
  refine frac_w (Int.mul_ne_zero (den_ne a) (den_ne b)) (bd_mono (mul_bd (n2 ha) (n2 hb)) (by omega)) ?_
  mul_fits
  rw [sub_eq]
  exact h
theorem times_w (ha : QB m a) (hb : QB n b) (hm : m + n + 1 ≤ 3000) (h : Q (qD (a * b)) S) : W (orc T (k + 2) 2 [qD a, qD b] S) Q := by
  refine orc_w (ρ := [some (qD a), some (qD b)]) rfl rfl rfl ?_
  show W (evSs _ b_times _ _) _
  simp only [b_times, qD]
  have m1 := ok_nd ha.1 hb.1 hm
  have m3 := ok_nd (n2 ha) (n2 hb) hm
  mul_fits
  refine frac_w (Int.mul_ne_zero (den_ne a) (den_ne b)) (bd_mono (mul_bd (n2 ha) (n2 hb)) (by omega)) ?_
  mul_fits
  rw [mul_eq]
  exact h
theorem over_w (ha : QB m a) (hb : QB n b) (h0 : b ≠ 0) (hm : m + n + 1 ≤ 3000) (h : Q (qD (a / b)) S) : W (orc T (k + 2) 3 [qD a, qD b] S) Q := by
  refine orc_w (ρ := [some (qD a), some (qD b)]) rfl rfl rfl ?_
  show W (evSs _ b_over _ _) _
  simp only [b_over, qD]
  have m1 := ok_nd ha.1 (n2 hb) hm
  have m3 := ok_nd (n2 ha) hb.1 hm
  mul_fits
  refine frac_w (Int.mul_ne_zero (den_ne a) (num_ne h0)) (bd_mono (mul_bd (n2 ha) hb.1) (by omega)) ?_
  mul_fits
  rw [div_eq]
  exact h
theorem lplus_w (ha : QB m a) (hb : QB n b) (hm : m + n + 1 ≤ 3000) (h : Q (qD (a + b)) S) : W (orc T (k + 3) 17 [qD a, qD b] S) Q := by
  refine orc_w (ρ := [some (qD a), some (qD b)]) rfl rfl rfl ?_
  show W (evSs _ b__law_plus _ _) _
  simp only [b__law_plus, qD]
  have m1 := ok_nd ha.1 (n2 hb) hm
  have m2 := ok_nd hb.1 (n2 ha) (by omega)
  have m3 := ok_nd (n2 ha) (n2 hb) hm
  mul_fits
  refine lfrac_w (Int.mul_ne_zero (den_ne a) (den_ne b)) (bd_mono (add_bd (mul_bd ha.1 (n2 hb)) (by rw [Nat.add_comm m n]; exact mul_bd hb.1 (n2 ha))) hm) (bd_mono (mul_bd (n2 ha) (n2 hb)) (by omega)) ?_
  mul_fits
  rw [add_eq]
  exact h
theorem lminus_w (ha : QB m a) (hb : QB n b) (hm : m + n + 1 ≤ 3000) (h : Q (qD (a - b)) S) : W (orc T (k + 3) 18 [qD a, qD b] S) Q := by
  refine orc_w (ρ := [some (qD a), some (qD b)]) rfl rfl rfl ?_
  show W (evSs _ b__law_minus _ _) _
  simp only [b__law_minus, qD]
  have m1 := ok_nd ha.1 (n2 hb) hm
  have m2 := ok_nd hb.1 (n2 ha) (by omega)
  have m3 := ok_nd (n2 ha) (n2 hb) hm
  mul_fits
  refine lfrac_w (Int.mul_ne_zero (den_ne a) (den_ne b)) (bd_mono (sub_bd (mul_bd ha.1 (n2 hb)) (by rw [Nat.add_comm m n]; exact mul_bd hb.1 (n2 ha))) hm) (bd_mono (mul_bd (n2 ha) (n2 hb)) (by omega)) ?_
  mul_fits
  rw [sub_eq]
  exact h
theorem ltimes_w (ha : QB m a) (hb : QB n b) (hm : m + n + 1 ≤ 3000) (h : Q (qD (a * b)) S) : W (orc T (k + 3) 19 [qD a, qD b] S) Q := by
  refine orc_w (ρ := [some (qD a), some (qD b)]) rfl rfl rfl ?_
  show W (evSs _ b__law_times _ _) _
  simp only [b__law_times, qD]
  have m1 := ok_nd ha.1 hb.1 hm
  have m3 := ok_nd (n2 ha) (n2 hb) hm
  mul_fits
  refine lfrac_w (Int.mul_ne_zero (den_ne a) (den_ne b)) (bd_mono (mul_bd ha.1 hb.1) (by omega)) (bd_mono (mul_bd (n2 ha) (n2 hb)) (by omega)) ?_
  mul_fits
  rw [mul_eq]
  exact h
theorem lover_w (ha : QB m a) (hb : QB n b) (h0 : b ≠ 0) (hm : m + n + 1 ≤ 3000) (h : Q (qD (a / b)) S) : W (orc T (k + 3) 20 [qD a, qD b] S) Q := by
  refine orc_w (ρ := [some (qD a), some (qD b)]) rfl rfl rfl ?_
  show W (evSs _ b__law_over _ _) _
  simp only [b__law_over, qD]
  have m1 := ok_nd ha.1 (n2 hb) hm
  have m3 := ok_nd (n2 ha) hb.1 hm
  mul_fits
  refine lfrac_w (Int.mul_ne_zero (den_ne a) (num_ne h0)) (bd_mono (mul_bd ha.1 (n2 hb)) (by omega)) (bd_mono (mul_bd (n2 ha) hb.1) (by omega)) ?_
  mul_fits
  rw [div_eq]
  exact h
/-- two fractions, compared -/
theorem qP_ok (f : Nat → Option PyData) (q : Rat) : toPW f (qD q) = some (.tuple [.int q.num, .int (q.den : Int)]) := by
  simp [qD, toPW, toPsW]
theorem eq_q {S : Sto} : dEq S (qD a) (qD b) = some (decide (a = b)) := by
  have e : ∀ q : Rat, toP S (qD q) = some (.tuple [.int q.num, .int (q.den : Int)]) := fun q => qP_ok _ q
  have sc : scalD (qD a) (qD b) = false := rfl
  unfold dEq
  rw [sc, e, e]
  have s : ∀ q : Rat, SeqAt.shaped (.tuple [.int q.num, .int (q.den : Int)]) = true := fun q => by
    simp [SeqAt.shaped, PyData.canLay0, PyData.canLayAll0, PyData.depth, PyData.depthAll]
  simp only [s, Bool.and_self, if_true, Bool.false_eq_true, if_false]
  congr 1
  simp only [PyData.eqv, PyData.eqvAll, Bool.and_true]
  rw [Bool.eq_iff_iff]
  simp only [Bool.and_eq_true, beq_iff_eq, decide_eq_true_eq]
  exact ⟨fun ⟨h1, h2⟩ => Rat.ext h1 (by omega), fun h => by subst h; exact ⟨rfl, rfl⟩⟩
theorem w_eqq {S : Sto} {Q : D → Sto → Prop} (h : Q (.bl (decide (a = b))) S) : W (cmpD .eq (qD a) (qD b) S) Q := by
  simp only [cmpD, eq_q]
  exact w_ok h
theorem w_neq {S : Sto} {Q : D → Sto → Prop} (h : Q (.bl (!decide (a = b))) S) : W (cmpD .ne (qD a) (qD b) S) Q := by
  simp only [cmpD, eq_q]
  exact w_ok h
theorem q0 : D.tup [.int 0, .int 1] = qD 0 := rfl
theorem q1 : D.tup [.int 1, .int 1] = qD 1 := rfl
theorem is_int_w {i : Int} (h : Q (.bl true) S) : W (orc T (k + 1) 13 [.int i] S) Q := by
  refine orc_w (ρ := [some (.int i)]) rfl rfl rfl ?_
  show W (evSs _ b__law_is_int _ _) _
  simp only [b__law_is_int]
  mul_fits
  exact h
theorem is_frac_w (ha : QB m a) (hm : m ≤ 3000) (h : Q (.bl true) S) : W (orc T (k + 2) 16 [qD a] S) Q := by
  refine orc_w (ρ := [some (qD a)]) rfl rfl rfl ?_
  show W (evSs _ b__law_is_frac _ _) _
  simp only [b__law_is_frac, qD]
  mul_fits
  simp only [b__law_is_frac_1]
  mul_fits
  refine is_int_w ?_
  mul_fits
  refine is_int_w ?_
  mul_fits
  simp only [b__law_is_frac_2]
  mul_fits
  have dp : (1 : Int) ≤ (a.den : Int) := by
    have := a.den_pos
    omega
  refine w_if_T (decide_eq_true dp) ?_
  mul_fits
  refine gcd_w (bd_mono ha.1 hm) (bd_mono (n2 ha) hm) ?_
  mul_fits
  have e : gg a.num (a.den : Int) = 1 := by
    unfold gg
    have := a.reduced
    unfold Nat.Coprime at this
    rw [Int.natAbs_natCast, this]
    rfl
  rw [show decide (gg a.num (a.den : Int) = 1) = true from decide_eq_true e]
  exact h
end
/-! ### sums, and what the elimination keeps -/
def sumN : Nat → (Nat → Rat) → Rat
  | 0, _ => 0
  | n + 1, f => sumN n f + f n
section
variable {f g : Nat → Rat} {n : Nat}
theorem sumN_congr : ∀ {n : Nat}, (∀ j, j < n → f j = g j) → sumN n f = sumN n g
  | 0, _ => rfl
  | n + 1, h => by
    rw [sumN, sumN, sumN_congr fun j hj => h j (by omega), h n (by omega)]
theorem sumN_zero : ∀ {n : Nat}, (∀ j, j < n → f j = 0) → sumN n f = 0
  | 0, _ => rfl
  | n + 1, h => by
    rw [sumN, sumN_zero fun j hj => h j (by omega), h n (by omega)]
    grind
theorem sumN_add : ∀ n, sumN n (fun j => f j + g j) = sumN n f + sumN n g
  | 0 => by simp [sumN]; grind
  | n + 1 => by
    rw [sumN, sumN, sumN, sumN_add n]
    grind
theorem sumN_mul (a : Rat) : ∀ n, sumN n (fun j => a * f j) = a * sumN n f
  | 0 => by simp [sumN]
  | n + 1 => by
    rw [sumN, sumN, sumN_mul a n]
    grind
theorem sumN_single {k : Nat} : ∀ {n : Nat}, k < n → (∀ j, j < n → j ≠ k → f j = 0) → sumN n f = f k
  | n + 1, hk, h => by
    rw [sumN]
    by_cases e : k = n
    · subst e
      rw [sumN_zero fun j hj => h j (by omega) (by omega)]
      grind
    · rw [sumN_single (by omega) fun j hj => h j (by omega), h n (by omega) (by omega)]
      grind
theorem sumN_tail {j : Nat} : ∀ {n : Nat}, j < n → (∀ k, j < k → k < n → f k = 0) → sumN n f - sumN j f = f j
  | n + 1, hj, h => by
    rw [sumN]
    by_cases e : j = n
    · subst e
      grind
    · rw [h n (by omega) (by omega)]
      have := sumN_tail (n := n) (by omega) fun k h1 h2 => h k h1 (by omega)
      grind
end
def dot (N : Nat) (r x : Nat → Rat) : Rat := sumN N fun j => r j * x j
abbrev Mx := Nat → Nat → Rat
def Ker (w N : Nat) (M : Mx) (x : Nat → Rat) : Prop := ∀ k, k < w → dot N (M k) x = 0
def Unit (w c : Nat) (M : Mx) : Prop := ∀ k j, k < w → j < c → M k j = if k = j then 1 else 0
def chosen (M : Mx) (at_ c : Nat) : Nat → Rat := fun j => M at_ j / M at_ c
def swapped (M : Mx) (at_ c : Nat) : Mx := fun k => if k = c then chosen M at_ c else if k = at_ then M c else M k
def stepM (M : Mx) (at_ c : Nat) : Mx := fun k => if k = c then chosen M at_ c else fun j => swapped M at_ c k j - swapped M at_ c k c * chosen M at_ c j
section
variable {w N n c at_ : Nat} {M M0 : Mx} {x : Nat → Rat}
theorem dot_sub {r s : Nat → Rat} {a : Rat} : dot N (fun j => r j - a * s j) x = dot N r x - a * dot N s x := by
  have h : sumN N (fun j => (r j - a * s j) * x j) = sumN N (fun j => r j * x j + (-a) * (s j * x j)) := sumN_congr fun j _ => by grind
  unfold dot
  rw [h, sumN_add, sumN_mul]
  grind
theorem dot_div {r : Nat → Rat} {a : Rat} : dot N (fun j => r j / a) x = dot N r x / a := by
  have h : sumN N (fun j => r j / a * x j) = sumN N (fun j => a⁻¹ * (r j * x j)) := sumN_congr fun j _ => by grind
  unfold dot
  rw [h, sumN_mul]
  grind
theorem ker_step (hc : c < w) (ha : at_ < w) (hp : M at_ c ≠ 0) : Ker w N (stepM M at_ c) x ↔ Ker w N M x := by
  have e1 : dot N (chosen M at_ c) x = dot N (M at_) x / M at_ c := dot_div
  have e2 : ∀ k, k ≠ c → dot N (stepM M at_ c k) x = dot N (swapped M at_ c k) x - swapped M at_ c k c * dot N (chosen M at_ c) x := fun k hk => by
    unfold stepM
    rw [if_neg hk]
    exact dot_sub
  have e3 : dot N (stepM M at_ c c) x = dot N (chosen M at_ c) x := by
    unfold stepM
    rw [if_pos rfl]
  constructor
  · intro h
    have h0 : dot N (chosen M at_ c) x = 0 := by
      rw [← e3]
      exact h c hc
    have ha0 : dot N (M at_) x = 0 := by
      rw [e1] at h0
      grind
    have h1 : ∀ k, k < w → k ≠ c → dot N (swapped M at_ c k) x = 0 := fun k hk hkc => by
      have := h k hk
      rw [e2 k hkc, h0] at this
      grind
    intro k hk
    by_cases k1 : k = at_
    · subst k1
      exact ha0
    · by_cases k2 : k = c
      · subst k2
        have := h1 at_ ha (by omega)
        unfold swapped at this
        rw [if_neg (by omega), if_pos rfl] at this
        exact this
      · have := h1 k hk k2
        unfold swapped at this
        rw [if_neg k2, if_neg k1] at this
        exact this
  · intro h k hk
    have h0 : dot N (chosen M at_ c) x = 0 := by
      rw [e1, h at_ ha]
      grind
    by_cases k2 : k = c
    · subst k2
      rw [e3]
      exact h0
    · rw [e2 k k2, h0]
      have : dot N (swapped M at_ c k) x = 0 := by
        unfold swapped
        rw [if_neg k2]
        split
        · exact h c hc
        · exact h k hk
      rw [this]
      grind
theorem unit_step (hc : c < w) (ha : at_ < w) (hca : c ≤ at_) (hp : M at_ c ≠ 0) (hu : Unit w c M) : Unit w (c + 1) (stepM M at_ c) := by
  have ch0 : ∀ j, j < c → chosen M at_ c j = 0 := fun j hj => by
    unfold chosen
    rw [hu at_ j ha hj, if_neg (by omega)]
    grind
  have ch1 : chosen M at_ c c = 1 := by
    unfold chosen
    grind
  intro k j hk hj
  unfold stepM
  by_cases k2 : k = c
  · subst k2
    rw [if_pos rfl]
    by_cases j1 : j = k
    · subst j1
      rw [if_pos rfl]
      exact ch1
    · rw [if_neg (by omega)]
      exact ch0 j (by omega)
  · rw [if_neg k2]
    by_cases j1 : j = c
    · subst j1
      rw [ch1, if_neg k2]
      grind
    · rw [ch0 j (by omega)]
      have : swapped M at_ c k j = if k = j then 1 else 0 := by
        unfold swapped
        rw [if_neg k2]
        split
        · rename_i k1
          subst k1
          rw [hu c j hc (by omega), if_neg (by omega), if_neg (by omega)]
        · exact hu k j hk (by omega)
      rw [this]
      grind
theorem pivot (hcn : c < n) (hu : Unit w c M) (hk : ∀ x, Ker w (n + 1) M x → x n = 0 → ∀ j, j < n → x j = 0) : ∃ k, c ≤ k ∧ k < w ∧ M k c ≠ 0 := by
  refine Classical.byContradiction fun hno => ?_
  have h0 : ∀ k, c ≤ k → k < w → M k c = 0 := fun k h1 h2 => Classical.byContradiction fun h3 => hno ⟨k, h1, h2, h3⟩
  let x : Nat → Rat := fun j => if j = c then 1 else if j < c then -M j c else 0
  have hx : Ker w (n + 1) M x := by
    intro k hkw
    by_cases kc : k < c
    · have h1 : dot (n + 1) (M k) x = sumN (n + 1) (fun j => (if j = k then -M k c else 0) + (if j = c then M k c else 0)) := by
        refine sumN_congr fun j _ => ?_
        show M k j * (if j = c then 1 else if j < c then -M j c else 0) = _
        by_cases j1 : j = c
        · subst j1
          rw [if_pos rfl, if_pos rfl, if_neg (by omega)]
          grind
        · rw [if_neg j1, if_neg j1]
          by_cases j2 : j < c
          · rw [if_pos j2, hu k j hkw j2]
            by_cases j3 : j = k
            · subst j3
              rw [if_pos rfl, if_pos rfl]
              grind
            · rw [if_neg (by omega), if_neg j3]
              grind
          · rw [if_neg j2, if_neg (by omega)]
            grind
      rw [h1, sumN_add, sumN_single (k := k) (by omega) (fun j _ hj => if_neg hj), sumN_single (k := c) (by omega) (fun j _ hj => if_neg hj), if_pos rfl, if_pos rfl]
      grind
    · refine sumN_zero fun j _ => ?_
      show M k j * (if j = c then 1 else if j < c then -M j c else 0) = _
      by_cases j1 : j = c
      · subst j1
        rw [h0 k (by omega) hkw]
        grind
      · rw [if_neg j1]
        by_cases j2 : j < c
        · rw [hu k j hkw j2, if_neg (by omega)]
          grind
        · rw [if_neg j2]
          grind
  have := hk x hx (by show (if n = c then (1 : Rat) else if n < c then -M n c else 0) = 0; rw [if_neg (by omega), if_neg (by omega)]) c hcn
  have h1 : x c = 1 := if_pos rfl
  grind
/-- the numbers sought, with -1 behind them -/
def ext (n : Nat) (t : Nat → Rat) : Nat → Rat := fun j => if j = n then -1 else t j
theorem dot_unit {k : Nat} (hu : Unit w n M) (hk : k < w) : dot (n + 1) (M k) x = (if k < n then x k else 0) + M k n * x n := by
  unfold dot
  rw [sumN]
  congr 1
  by_cases kn : k < n
  · rw [if_pos kn, sumN_single (k := k) kn fun j hj hjk => by rw [hu k j hk hj, if_neg (by omega)]; grind]
    rw [hu k k hk kn, if_pos rfl]
    grind
  · rw [if_neg kn]
    refine sumN_zero fun j hj => ?_
    rw [hu k j hk hj, if_neg (by omega)]
    grind
theorem final_iff {t : Nat → Rat} (hu : Unit w n M) : Ker w (n + 1) M (ext n t) ↔ ∀ k, k < w → M k n = if k < n then t k else 0 := by
  have e : ∀ k, k < w → dot (n + 1) (M k) (ext n t) = (if k < n then t k else 0) - M k n := fun k hk => by
    rw [dot_unit hu hk]
    have h1 : ext n t n = -1 := if_pos rfl
    rw [h1]
    by_cases kn : k < n
    · rw [if_pos kn, if_pos kn]
      have h2 : ext n t k = t k := if_neg (by omega)
      rw [h2]
      grind
    · rw [if_neg kn, if_neg kn]
      grind
  constructor
  · intro h k hk
    have := h k hk
    rw [e k hk] at this
    grind
  · intro h k hk
    rw [e k hk, h k hk]
    grind
end
/-! ### the law's elimination -/
def leftF (r : Mx) (p : Nat → Nat) (b : Nat → Rat) : Nat → Nat → Rat
  | 0 => b
  | j + 1 => fun a => leftF r p b j a - leftF r p b j (p j) / r j (p j) * r j a
def fF (r : Mx) (p : Nat → Nat) (b : Nat → Rat) (j : Nat) : Rat := leftF r p b j (p j) / r j (p j)
def Tri (w n : Nat) (r : Mx) (p : Nat → Nat) : Prop := ∀ k, k < n → p k < w ∧ r k (p k) ≠ 0 ∧ ∀ j, j < k → r k (p j) = 0
section
variable {w n : Nat} {r : Mx} {p : Nat → Nat} {b g : Nat → Rat}
theorem left_spec (a : Nat) : ∀ j, b a = sumN j (fun k => fF r p b k * r k a) + leftF r p b j a
  | 0 => by
    show b a = 0 + b a
    grind
  | j + 1 => by
    rw [sumN]
    have h1 := left_spec a j
    have h2 : leftF r p b (j + 1) a = leftF r p b j a - fF r p b j * r j a := rfl
    rw [h2]
    grind
theorem uniq (ht : Tri w n r p) (hg : ∀ a, a < w → b a = sumN n (fun k => g k * r k a)) : ∀ j, j ≤ n → (∀ i, i < j → fF r p b i = g i) ∧ ∀ a, a < w → leftF r p b j a = sumN n (fun k => g k * r k a) - sumN j (fun k => g k * r k a)
  | 0, _ => by
    refine ⟨fun i hi => absurd hi (by omega), fun a ha => ?_⟩
    show b a = _ - 0
    rw [hg a ha]
    grind
  | j + 1, hj => by
    obtain ⟨h1, h2⟩ := uniq ht hg j (by omega)
    obtain ⟨t1, t2, t3⟩ := ht j (by omega)
    have hf : fF r p b j = g j := by
      unfold fF
      rw [h2 _ t1, sumN_tail (j := j) (by omega) fun k k1 k2 => by rw [(ht k k2).2.2 j k1]; grind]
      grind
    refine ⟨fun i hi => ?_, fun a ha => ?_⟩
    · by_cases e : i = j
      · subst e
        exact hf
      · exact h1 i (by omega)
    · have e2 : leftF r p b (j + 1) a = leftF r p b j a - fF r p b j * r j a := rfl
      rw [e2, hf, h2 a ha, sumN]
      grind
theorem uniq0 (ht : Tri w n r p) (hg : ∀ a, a < w → b a = sumN n (fun k => g k * r k a)) : (∀ i, i < n → fF r p b i = g i) ∧ ∀ a, a < w → leftF r p b n a = 0 := by
  obtain ⟨h1, h2⟩ := uniq ht hg n (Nat.le_refl _)
  refine ⟨h1, fun a ha => ?_⟩
  rw [h2 a ha]
  grind
end
/-! ### the order -/
def lsum : List Rat → Rat
  | [] => 0
  | a :: l => a + lsum l
theorem lsum_perm {l m : List Rat} (h : l.Perm m) : lsum l = lsum m := by
  induction h with
  | nil => rfl
  | cons x _ ih => rw [lsum, lsum, ih]
  | swap x y l => simp only [lsum]; grind
  | trans _ _ h1 h2 => rw [h1, h2]
theorem lsum_app {l m : List Rat} : lsum (l ++ m) = lsum l + lsum m := by
  induction l with
  | nil => simp only [List.nil_append, lsum]; grind
  | cons x l ih => rw [List.cons_append, lsum, lsum, ih]; grind
theorem lsum_range (h : Nat → Rat) : ∀ n, lsum ((List.range n).map h) = sumN n h
  | 0 => rfl
  | n + 1 => by
    rw [List.range_succ, List.map_append, lsum_app, lsum_range h n, sumN]
    simp only [List.map_cons, List.map_nil, lsum]
    grind
theorem sum_order {n : Nat} {o : List Nat} (ho : o.Perm (List.range n)) (h : Nat → Rat) : sumN n (fun i => h (o.getD i 0)) = sumN n h := by
  rw [← lsum_range h n, ← lsum_perm (ho.map h), ← lsum_range]
  congr 1
  have hl : o.length = n := by rw [ho.length_eq, List.length_range]
  refine List.ext_getElem (by simp [hl]) fun i h1 h2 => ?_
  have : i < o.length := by simpa using h2
  simp [this]
/-- the system that the program solves -/
def sysM (r : Mx) (b : Nat → Rat) (n : Nat) (o : List Nat) : Mx := fun a j => if j = n then b a else r (o.getD j 0) a
section
variable {w n : Nat} {r : Mx} {p : Nat → Nat} {b g t : Nat → Rat} {o : List Nat} {M : Mx}
theorem dot_sys {x : Nat → Rat} {a : Nat} : dot (n + 1) (sysM r b n o a) x = sumN n (fun i => r (o.getD i 0) a * x i) + b a * x n := by
  unfold dot
  rw [sumN]
  have h1 : sysM r b n o a n = b a := if_pos rfl
  rw [h1]
  congr 1
  refine sumN_congr fun j hj => ?_
  have h2 : sysM r b n o a j = r (o.getD j 0) a := if_neg (by omega)
  rw [h2]
theorem idx_o (ho : o.Perm (List.range n)) {i : Nat} (hi : i < n) : o.idxOf (o.getD i 0) = i := by
  have hl : o.length = n := by rw [ho.length_eq, List.length_range]
  have nd : o.Nodup := ho.nodup_iff.mpr List.nodup_range
  have e : o.getD i 0 = o[i] := by simp [List.getD, hl, hi]
  rw [e]
  exact List.Nodup.idxOf_getElem nd i (by omega)
theorem sum_x (ho : o.Perm (List.range n)) {x : Nat → Rat} {a : Nat} : sumN n (fun i => r (o.getD i 0) a * x i) = sumN n (fun k => x (o.idxOf k) * r k a) := by
  rw [← sum_order ho fun k => x (o.idxOf k) * r k a]
  refine sumN_congr fun i hi => ?_
  rw [idx_o ho hi]
  grind
theorem sys_ker (ht : Tri w n r p) (ho : o.Perm (List.range n)) {x : Nat → Rat} (hx : Ker w (n + 1) (sysM r b n o) x) (hxn : x n = 0) : ∀ j, j < n → x j = 0 := by
  have h1 : ∀ a, a < w → (0 : Rat) = sumN n (fun k => x (o.idxOf k) * r k a) := fun a ha => by
    have := hx a ha
    rw [dot_sys, hxn, sum_x ho] at this
    grind
  have h2 := (uniq0 (b := fun _ => 0) (g := fun k => x (o.idxOf k)) ht h1).1
  have h3 := (uniq0 (b := fun _ => 0) (g := fun _ => 0) ht fun a ha => by
    rw [sumN_zero fun j _ => by grind]).1
  intro j hj
  have hl : o.length = n := by rw [ho.length_eq, List.length_range]
  have hlt : o.getD j 0 < n := by
    have e : o.getD j 0 = o[j] := by simp [List.getD, hl, hj]
    rw [e]
    exact List.mem_range.mp (ho.mem_iff.mp (List.getElem_mem (by omega)))
  have e1 := h2 _ hlt
  have e2 := h3 _ hlt
  rw [idx_o ho hj] at e1
  rw [← e1, e2]
theorem sys_some (ho : o.Perm (List.range n)) (hM : ∀ x, Ker w (n + 1) M x ↔ Ker w (n + 1) (sysM r b n o) x) (hu : Unit w n M) (h0 : ∀ a, a < w → leftF r p b n a = 0) : ∀ k, k < w → M k n = if k < n then fF r p b (o.getD k 0) else 0 := by
  refine (final_iff (t := fun k => fF r p b (o.getD k 0)) hu).mp ((hM _).mpr fun a ha => ?_)
  rw [dot_sys]
  have h1 : ext n (fun k => fF r p b (o.getD k 0)) n = -1 := if_pos rfl
  have h2 : sumN n (fun i => r (o.getD i 0) a * ext n (fun k => fF r p b (o.getD k 0)) i) = sumN n (fun i => fF r p b (o.getD i 0) * r (o.getD i 0) a) := sumN_congr fun j hj => by
    have h3 : ext n (fun k => fF r p b (o.getD k 0)) j = fF r p b (o.getD j 0) := if_neg (by omega)
    rw [h3]
    grind
  rw [h1, h2, sum_order ho fun k => fF r p b k * r k a]
  have := left_spec (r := r) (p := p) (b := b) a n
  rw [h0 a ha] at this
  grind
theorem sys_none (ht : Tri w n r p) (ho : o.Perm (List.range n)) (hM : ∀ x, Ker w (n + 1) M x ↔ Ker w (n + 1) (sysM r b n o) x) (hu : Unit w n M) (hz : ∀ k, n ≤ k → k < w → M k n = 0) : ∀ a, a < w → leftF r p b n a = 0 := by
  have h1 : Ker w (n + 1) (sysM r b n o) (ext n fun k => M k n) := (hM _).mp ((final_iff hu).mpr fun k hk => by
    split
    · rfl
    · exact hz k (by omega) hk)
  refine (uniq0 (g := fun k => M (o.idxOf k) n) ht fun a ha => ?_).2
  have := h1 a ha
  rw [dot_sys, sum_x ho] at this
  have e1 : ext n (fun k => M k n) n = -1 := if_pos rfl
  rw [e1] at this
  have hl : o.length = n := by rw [ho.length_eq, List.length_range]
  have e2 : sumN n (fun k => ext n (fun k => M k n) (o.idxOf k) * r k a) = sumN n (fun k => M (o.idxOf k) n * r k a) := sumN_congr fun j hj => by
    have hm : j ∈ o := ho.mem_iff.mpr (List.mem_range.mpr hj)
    have h3 : ext n (fun k => M k n) (o.idxOf j) = M (o.idxOf j) n := if_neg (by
      have := List.idxOf_lt_length_iff.mpr hm
      omega)
    rw [h3]
  rw [e2] at this
  grind
end
/-! ### the program's solution, walked -/
def vecD (w : Nat) (r : Nat → Rat) : List D := (List.range w).map fun (j : Nat) => qD (r j)
abbrev natD (n : Nat) : D := .int (n : Int)
theorem rgD_nat (i j : Nat) : rgD (i : Int) (j : Int) = (List.range' i (j - i)).map natD := by
  unfold rgD
  rw [show ((j : Int) - (i : Int)).toNat = j - i by omega, List.range'_eq_map_range, List.map_map]
  refine List.map_congr_left fun k _ => ?_
  simp
theorem rgD_0 (j : Nat) : rgD 0 (j : Int) = (List.range' 0 j).map natD := rgD_nat 0 j
theorem at_vec {w : Nat} {r : Nat → Rat} {j : Nat} (h : j < w) : atI (vecD w r) (j : Int) = some (qD (r j)) := by
  rw [at_nat _ _ (by simp [vecD, h])]
  simp [vecD]
theorem vec_len {w : Nat} {r : Nat → Rat} : (vecD w r).length = w := by simp [vecD]
theorem vec_succ {n : Nat} {f : Nat → Rat} : vecD (n + 1) f = vecD n f ++ [qD (f n)] := by simp [vecD, List.range_succ]
theorem vec_congr {w : Nat} {r s : Nat → Rat} (h : ∀ j, j < w → r j = s j) : vecD w r = vecD w s := List.map_congr_left fun j hj => by rw [h j (List.mem_range.mp hj)]
theorem rg'_cons {c m : Nat} : List.range' c (m + 1) = c :: List.range' (c + 1) m := rfl
theorem vec_cons_take {w k : Nat} {r : Nat → Rat} (h : k < w) : (vecD w r).take (k + 1) = (vecD w r).take k ++ [qD (r k)] := by
  rw [List.take_succ_eq_append_getElem (by rw [vec_len]; exact h)]
  simp [vecD]
/-- a comprehension over numbers: each makes a fraction, and nothing else -/
theorem comp_vec {C : Orc} {ρ : En} {S : Sto} {own : List Nat} {v n : Nat} {e : CE} {f : Nat → Rat} {QQ : List D → Sto → Prop}
    (he : ∀ (j : Nat) (Q' : D → Sto → Prop), j < n → Q' (qD (f j)) S → W (evE C e ((wipeE ρ own).set v (some (natD j))) S) Q')
    (h : QQ (vecD n f) S) : W (loopQ (Itv.still ⟨rgD 0 (n : Int), none⟩) (fun d S2 => may (bindN (.nm v) d (wipeE ρ own) S2) fun ρ' => (evE C e ρ' S2).bind fun x S3 => .ok (some x) S3) (rgD 0 (n : Int)) S) QQ := by
  refine loopQ_w (fun ds r S' => S' = S ∧ ∃ c m, c + m = n ∧ ds = (List.range' c m).map natD ∧ r = (vecD n f).take c) ?_ ?_ _ _ ⟨rfl, 0, n, by omega, rgD_0 n, rfl⟩
  · rintro d ds r S' ⟨rfl, c, m, hcm, hds, rfl⟩
    refine ⟨trivial, ?_⟩
    cases m with
    | zero => exact absurd hds (by simp)
    | succ m =>
    rw [rg'_cons, List.map_cons, List.cons.injEq] at hds
    obtain ⟨rfl, rfl⟩ := hds
    show W (Res.bind _ _) _
    refine w_bind (he c _ (by omega) (w_ok ⟨rfl, c + 1, m, by omega, rfl, ?_⟩))
    rw [vec_cons_take (by omega)]
    rfl
  · rintro r S' ⟨rfl, c, m, hcm, hds, rfl⟩
    refine ⟨trivial, ?_⟩
    cases m with
    | succ m => exact absurd hds (by simp [rg'_cons])
    | zero =>
    rw [List.take_of_length_le (by rw [vec_len]; omega)]
    exact h
/-- .. over a vector's own fractions -/
theorem comp_vec2 {C : Orc} {ρ : En} {S : Sto} {own : List Nat} {v n : Nat} {e : CE} {f g : Nat → Rat} {QQ : List D → Sto → Prop} {at_ : Option Nat} (hst : Itv.still ⟨vecD n g, at_⟩ S)
    (he : ∀ (j : Nat) (Q' : D → Sto → Prop), j < n → Q' (qD (f j)) S → W (evE C e ((wipeE ρ own).set v (some (qD (g j)))) S) Q')
    (h : QQ (vecD n f) S) : W (loopQ (Itv.still ⟨vecD n g, at_⟩) (fun d S2 => may (bindN (.nm v) d (wipeE ρ own) S2) fun ρ' => (evE C e ρ' S2).bind fun x S3 => .ok (some x) S3) (vecD n g) S) QQ := by
  refine loopQ_w (fun ds r S' => S' = S ∧ ∃ c m, c + m = n ∧ ds = (List.range' c m).map (fun j => qD (g j)) ∧ r = (vecD n f).take c) ?_ ?_ _ _ ⟨rfl, 0, n, by omega, by rw [← List.range_eq_range']; rfl, rfl⟩
  · rintro d ds r S' ⟨rfl, c, m, hcm, hds, rfl⟩
    refine ⟨hst, ?_⟩
    cases m with
    | zero => exact absurd hds (by simp)
    | succ m =>
    rw [rg'_cons, List.map_cons, List.cons.injEq] at hds
    obtain ⟨rfl, rfl⟩ := hds
    show W (Res.bind _ _) _
    refine w_bind (he c _ (by omega) (w_ok ⟨rfl, c + 1, m, by omega, rfl, ?_⟩))
    rw [vec_cons_take (by omega)]
    rfl
  · rintro r S' ⟨rfl, c, m, hcm, hds, rfl⟩
    refine ⟨hst, ?_⟩
    cases m with
    | succ m => exact absurd hds (by simp [rg'_cons])
    | zero =>
    rw [List.take_of_length_le (by rw [vec_len]; omega)]
    exact h
def VB (n b cb : Nat) (r : Nat → Rat) : Prop := (∀ j, j < n → QB b (r j)) ∧ QB cb (r n)
theorem VB.all {n b cb : Nat} {r : Nat → Rat} (h : VB n b cb r) (hb : b ≤ cb) {j : Nat} (hj : j < n + 1) : QB cb (r j) := by
  by_cases e : j = n
  · subst e
    exact h.2
  · exact (h.1 j (by omega)).mono hb
theorem VB.mono {n b cb b' cb' : Nat} {r : Nat → Rat} (h : VB n b cb r) (h1 : b ≤ b') (h2 : cb ≤ cb') : VB n b' cb' r := ⟨fun j hj => (h.1 j hj).mono h1, h.2.mono h2⟩
section
variable {k : Nat} {S : Sto} {Q : D → Sto → Prop} {n w b cb : Nat} {r s : Nat → Rat} {p : Rat}
theorem scaled_w {a : Nat} (ha : S[a]? = some (.lst (vecD (n + 1) r))) (hn : n ≤ 60) (hr : VB n b cb r) (hb : b ≤ cb) (hp : QB b p) (p0 : p ≠ 0) (hs : cb + b + 1 ≤ 3000)
    (h : Q (.ref S.length) (S ++ [.lst (vecD (n + 1) fun j => r j / p)])) : W (orc T (k + 3) 5 [.ref a, qD p] S) Q := by
  refine orc_w (ρ := [some (.ref a), some (qD p), none]) rfl rfl rfl ?_
  show W (evSs _ b_scaled _ _) _
  simp only [b_scaled]
  have it : itOf (.val (.ref a)) S = some ⟨vecD (n + 1) r, some a⟩ := by simp only [itOf, sqOf, lsOf, ha]; rfl
  mul_fits
  refine w_may it ?_
  mul_fits
  refine ⟨le64 (by show (vecD (n + 1) r).length ≤ 64; rw [vec_len]; omega), ?_⟩
  refine comp_vec2 ha (fun j Q' hj hq => ?_) ?_ (f := fun j => r j / p)
  · mul_fits
    exact over_w (hr.all hb hj) hp p0 hs hq
  · mul_fits
    rw [gc_out (by simp [below])]
    exact w_ok h
theorem cleared_w {a a2 c : Nat} (hc : c < n) (ha : S[a]? = some (.lst (vecD (n + 1) r))) (ha2 : S[a2]? = some (.lst (vecD (n + 1) s))) (hn : n ≤ 60) (hr : VB n b cb r) (hv : VB n (b + b) (cb + b) s) (hb : b ≤ cb) (hs : cb + (b + (cb + b)) + 1 ≤ 3000)
    (h : Q (.ref S.length) (S ++ [.lst (vecD (n + 1) fun j => r j - r c * s j)])) : W (orc T (k + 3) 6 [.ref a, .ref a2, .int (c : Int)] S) Q := by
  refine orc_w (ρ := [some (.ref a), some (.ref a2), some (.int (c : Int)), none, none]) rfl rfl rfl ?_
  show W (evSs _ b_cleared _ _) _
  simp only [b_cleared]
  have a0 := at_vec (r := r) (show c < n + 1 by omega)
  have sq : sqOf S (.val (.ref a)) = some (vecD (n + 1) r) := by simp only [sqOf, lsOf, ha]
  mul_fits
  rw [vec_len]
  mul_fits
  refine ⟨le64 (by show (rgD 0 _).length ≤ 64; simp [rgD]; omega), ?_⟩
  refine comp_vec (fun j Q' hj hq => ?_) ?_ (f := fun j => r j - r c * s j)
  · have a1 := at_vec (r := r) hj
    have a2 := at_vec (r := s) hj
    have hf := (hr.1 c hc)
    have hsj := hv.all (by omega) hj
    mul_fits
    refine times_w hf hsj (by omega) ?_
    mul_fits
    exact minus_w (hr.all hb hj) (hf.mul hsj) (by omega) hq
  · mul_fits
    rw [gc_out (by simp [below])]
    exact w_ok h
/-- the rows of a matrix, by the references to them -/
def Rws (S : Sto) (w N : Nat) (ds : List D) (M : Mx) : Prop := ds.length = w ∧ ∀ k, k < w → ∃ c, ds[k]? = some (.ref c) ∧ S[c]? = some (.lst (vecD N (M k)))
theorem at_ds {l : List D} {j : Nat} {d : D} (h : l[j]? = some d) : atI l (j : Int) = some d := by
  have hj := (List.getElem?_eq_some_iff.mp h).1
  rw [at_nat _ _ hj]
  rw [List.getElem?_eq_getElem hj] at h
  exact h
theorem first_with_w {a st c : Nat} {M : Mx} {ds : List D} (ha : S[a]? = some (.lst ds)) (hr : Rws S w (n + 1) ds M) (hw : w ≤ 60) (hst : st ≤ w) (hc : c < n + 1)
    (h1 : ∀ q, st ≤ q → q < w → M q c ≠ 0 → Q (.int (q : Int)) S) (h2 : (∀ q, st ≤ q → q < w → M q c = 0) → Q .non S) : W (orc T (k + 1) 4 [.ref a, .int (st : Int), .int (c : Int)] S) Q := by
  refine orc_w (ρ := [some (.ref a), some (.int (st : Int)), some (.int (c : Int)), none]) rfl rfl rfl ?_
  show W (evSs _ b_first_with _ _) _
  simp only [b_first_with]
  have sq : sqOf S (.val (.ref a)) = some ds := by simp only [sqOf, lsOf, ha]
  have hl := hr.1
  mul_fits
  rw [hl, rgD_nat]
  refine loopS_r (fun es ρ S' => ∃ (q m : Nat) (o3 : Option D), q + m = w ∧ st ≤ q ∧ es = (List.range' q m).map natD ∧ S' = S ∧ ρ = [some (.ref a), some (.int (st : Int)), some (.int (c : Int)), o3] ∧ ∀ j, st ≤ j → j < q → M j c = 0) ?_ ?_ _ _ _ ⟨st, w - st, _, by omega, Nat.le_refl _, rfl, rfl, rfl, fun j a b => absurd a (by omega)⟩
  · rintro d es ρ S' ⟨q, m, o3, hqm, hsq, hes, rfl, rfl, hz⟩
    refine ⟨trivial, ?_⟩
    cases m with
    | zero => exact absurd hes (by simp)
    | succ m =>
    rw [rg'_cons, List.map_cons, List.cons.injEq] at hes
    obtain ⟨rfl, rfl⟩ := hes
    obtain ⟨cc, e1, e2⟩ := hr.2 q (by omega)
    have a1 := at_ds e1
    have a2 := at_vec (r := M q) hc
    simp only [b_first_with_1]
    mul_fits
    rw [q0]
    refine w_neq ?_
    mul_fits
    by_cases z : M q c = 0
    · refine w_if_F (by simp [z]) ?_
      mul_fits
      exact ⟨q + 1, m, _, by omega, by omega, rfl, rfl, rfl, fun j h1 h2 => by
        by_cases e : j = q
        · subst e
          exact z
        · exact hz j h1 (by omega)⟩
    · refine w_if_T (by simp [z]) ?_
      mul_fits
      exact h1 q hsq (by omega) z
  · rintro ρ S' ⟨q, m, o3, hqm, hsq, hes, rfl, rfl, hz⟩
    refine ⟨trivial, ?_⟩
    cases m with
    | succ m => exact absurd hes (by simp [rg'_cons])
    | zero =>
    mul_fits
    simp only [b_first_with_2]
    mul_fits
    exact h2 fun j a b => hz j a (by omega)
end
/-! ### bounds; the solution -/
section
variable {n w b cb c at_ : Nat} {M : Mx}
def Bd (w n b cb : Nat) (M : Mx) : Prop := ∀ k, k < w → VB n b cb (M k)
theorem chosen_vb (hM : Bd w n b cb M) (ha : at_ < w) (hc : c < n) (h0 : M at_ c ≠ 0) : VB n (b + b) (cb + b) (chosen M at_ c) :=
  ⟨fun j hj => ((hM at_ ha).1 j hj).div ((hM at_ ha).1 c hc) h0, (hM at_ ha).2.div ((hM at_ ha).1 c hc) h0⟩
theorem swapped_vb (hM : Bd w n b cb M) (ha : at_ < w) (hcw : c < w) {k : Nat} (hk : k < w) (hkc : k ≠ c) : VB n b cb (swapped M at_ c k) := by
  unfold swapped
  rw [if_neg hkc]
  split
  · exact hM c hcw
  · exact hM k hk
theorem step_vb (hM : Bd w n b cb M) (ha : at_ < w) (hcw : c < w) (hc : c < n) (h0 : M at_ c ≠ 0) : Bd w n (4 * b + 1) (2 * cb + 2 * b + 1) (stepM M at_ c) := by
  intro k hk
  have hch := chosen_vb hM ha hc h0
  unfold stepM
  by_cases e : k = c
  · rw [if_pos e]
    exact hch.mono (by omega) (by omega)
  · rw [if_neg e]
    have hs := swapped_vb hM ha hcw hk e
    exact ⟨fun j hj => ((hs.1 j hj).sub ((hs.1 c hc).mul (hch.1 j hj))).mono (by omega), (hs.2.sub ((hs.1 c hc).mul hch.2)).mono (by omega)⟩
def bb : Nat → Nat × Nat
  | 0 => (3, 31)
  | c + 1 => (4 * (bb c).1 + 1, 2 * (bb c).2 + 2 * (bb c).1 + 1)
theorem bb_le {c : Nat} (h : c < 4) : (bb c).1 ≤ (bb c).2 ∧ (bb c).1 ≤ 213 ∧ (bb c).2 ≤ 437 := by
  match c, h with
  | 0, _ => decide
  | 1, _ => decide
  | 2, _ => decide
  | 3, _ => decide
theorem bb_le4 {c : Nat} (h : c ≤ 4) : (bb c).2 ≤ 1301 := by
  match c, h with
  | 0, _ => decide
  | 1, _ => decide
  | 2, _ => decide
  | 3, _ => decide
  | 4, _ => decide
end
/-- the rows, where the list of them stands at A's end -/
def RwA (A G : Sto) (w N : Nat) (ds : List D) (M : Mx) : Prop := ds.length = w ∧ ∀ k, k < w → ∃ c, c ≠ A.length ∧ ds[k]? = some (.ref c) ∧ ∀ o, (A ++ [o] ++ G)[c]? = some (.lst (vecD N (M k)))
section
variable {k : Nat} {S A G : Sto} {Q : D → Sto → Prop} {n w N : Nat} {M M' : Mx} {ds : List D}
theorem RwA.rws (h : RwA A G w N ds M) (o : Ob) : Rws (A ++ [o] ++ G) w N ds M := ⟨h.1, fun k hk => by
  obtain ⟨c, _, h2, h3⟩ := h.2 k hk
  exact ⟨c, h2, h3 o⟩⟩
theorem RwA.grow (h : RwA A G w N ds M) (g : Sto) : RwA A (G ++ g) w N ds M := ⟨h.1, fun k hk => by
  obtain ⟨c, h1, h2, h3⟩ := h.2 k hk
  exact ⟨c, h1, h2, fun o => by rw [← List.append_assoc]; exact get_pre (h3 o)⟩⟩
theorem RwA.congr (h : RwA A G w N ds M) (e : ∀ k j, k < w → j < N → M k j = M' k j) : RwA A G w N ds M' := ⟨h.1, fun k hk => by
  obtain ⟨c, h1, h2, h3⟩ := h.2 k hk
  exact ⟨c, h1, h2, fun o => by rw [h3 o, vec_congr fun j hj => e k j hk hj]⟩⟩
theorem RwA.put (h : RwA A G w N ds M) {q c : Nat} (hc : c ≠ A.length) {r : Nat → Rat} (hr : ∀ o, (A ++ [o] ++ G)[c]? = some (.lst (vecD N r))) : RwA A G w N (ds.set q (.ref c)) (fun k => if k = q then r else M k) := ⟨by rw [List.length_set]; exact h.1, fun k hk => by
  by_cases e : k = q
  · subst e
    refine ⟨c, hc, ?_, fun o => by dsimp only; rw [if_pos rfl]; exact hr o⟩
    rw [List.getElem?_set_self (by rw [h.1]; exact hk)]
  · obtain ⟨c', h1, h2, h3⟩ := h.2 k hk
    refine ⟨c', h1, ?_, fun o => by dsimp only; rw [if_neg e]; exact h3 o⟩
    rw [List.getElem?_set_ne (by omega)]
    exact h2⟩
theorem new_at {A G : Sto} {o p : Ob} : ∀ o', (A ++ [o'] ++ (G ++ [p]))[(A ++ [o] ++ G).length]? = some p := fun o' => by
  rw [← List.append_assoc, show (A ++ [o] ++ G).length = (A ++ [o'] ++ G).length by simp]
  exact get_end _ _
theorem solution_w {a : Nat} {M0 : Mx} {ds0 : List D} (ha : S[a]? = some (.lst ds0)) (hR : Rws S w (n + 1) ds0 M0) (hw : w ≤ 6) (hn : n ≤ 4) (hnw : n ≤ w) (hB : Bd w n 3 31 M0) (hk : ∀ x, Ker w (n + 1) M0 x → x n = 0 → ∀ j, j < n → x j = 0)
    (h : ∀ M, (∀ x, Ker w (n + 1) M x ↔ Ker w (n + 1) M0 x) → Unit w n M → Bd w n (bb n).1 (bb n).2 M → ((∀ q, n ≤ q → q < w → M q n = 0) → Q (.tup (vecD n fun q => M q n)) S) ∧ ((∃ q, n ≤ q ∧ q < w ∧ M q n ≠ 0) → Q .non S)) : W (orc T (k + 4) 7 [.ref a, .int (n : Int)] S) Q := by
  refine orc_w (ρ := [some (.ref a), some (.int (n : Int)), none, none, none, none, none, none]) rfl rfl rfl ?_
  show W (evSs _ b_solution _ _) _
  simp only [b_solution]
  have it : itOf (.val (.ref a)) S = some ⟨ds0, some a⟩ := by simp only [itOf, sqOf, lsOf, ha]; rfl
  have hl := hR.1
  mul_fits
  refine w_may it ?_
  mul_fits
  refine ⟨le64 (by show ds0.length ≤ 64; omega), ?_⟩
  refine loopQ_w (fun ds r S' => ∃ (c m : Nat) (g : Sto), c + m = w ∧ ds = ds0.drop c ∧ S' = S ++ g ∧ r.length = c ∧ ∀ k, k < c → ∃ q, r[k]? = some (.ref q) ∧ (S ++ g)[q]? = some (.lst (vecD (n + 1) (M0 k)))) ?_ ?_ _ _ ⟨0, w, [], by omega, rfl, by simp, rfl, fun k hk => absurd hk (by omega)⟩
  · rintro d ds r S' ⟨c, m, g, hcm, hds, rfl, hrl, hrr⟩
    refine ⟨get_pre ha, ?_⟩
    have hcl : c < ds0.length := by
      have := congrArg List.length hds
      simp at this
      omega
    rw [List.drop_eq_getElem_cons hcl, List.cons.injEq] at hds
    obtain ⟨rfl, rfl⟩ := hds
    obtain ⟨q, e1, e2⟩ := hR.2 c (by omega)
    rw [List.getElem?_eq_getElem hcl, Option.some.injEq] at e1
    rw [e1]
    have e3 : (S ++ g)[q]? = some (.lst (vecD (n + 1) (M0 c))) := get_pre e2
    have ls : lstOf (S ++ g) (.val (.ref q)) = some (vecD (n + 1) (M0 c)) := by simp only [lstOf, sqOf, lsOf, e3]
    mul_fits
    refine w_may ls ?_
    mul_fits
    refine ⟨c + 1, m - 1, g ++ [.lst (vecD (n + 1) (M0 c))], by omega, rfl, by simp, by simp [hrl], fun k hk => ?_⟩
    by_cases e : k = c
    · subst e
      refine ⟨(S ++ g).length, by rw [List.getElem?_append_right (by omega)]; simp [hrl], ?_⟩
      rw [← List.append_assoc]
      exact get_end _ _
    · obtain ⟨q', f1, f2⟩ := hrr k (by omega)
      refine ⟨q', by rw [List.getElem?_append_left (by omega)]; exact f1, ?_⟩
      rw [← List.append_assoc]
      exact get_pre f2
  · rintro r S' ⟨c, m, g, hcm, hds, rfl, hrl, hrr⟩
    refine ⟨get_pre ha, ?_⟩
    have hcw : c = w := by
      have := congrArg List.length hds
      simp at this
      omega
    subst hcw
    mul_fits
    have hA : RwA (S ++ g) [] c (n + 1) r M0 := ⟨hrl, fun k hk => by
      obtain ⟨q, f1, f2⟩ := hrr k hk
      have := (List.getElem?_eq_some_iff.mp f2).1
      refine ⟨q, by omega, f1, fun o => ?_⟩
      rw [List.append_nil]
      exact get_pre f2⟩
    rw [rgD_0]
    generalize hAe : S ++ g = A at hA
    clear hrr
    refine loopS_w (fun es ρ S' => ∃ (c' m : Nat) (ds : List D) (G : Sto) (M : Mx) (o3 o4 o5 o6 : Option D), c' + m = n ∧ es = (List.range' c' m).map natD ∧ S' = A ++ [.lst ds] ++ G ∧ ρ = [some (.ref a), some (.int (n : Int)), some (.ref A.length), o3, o4, o5, o6, none] ∧ RwA A G c (n + 1) ds M ∧ (∀ x, Ker c (n + 1) M x ↔ Ker c (n + 1) M0 x) ∧ Unit c c' M ∧ Bd c n (bb c').1 (bb c').2 M) ?_ ?_ _ _ _ ⟨0, n, r, [], M0, _, _, _, _, by omega, rfl, by simp, rfl, hA, fun x => Iff.rfl, fun k j _ hj => absurd hj (by omega), hB⟩
    · rintro d es ρ S' ⟨c', m, ds, G, M, o3, o4, o5, o6, hcm', hes, rfl, rfl, hRw, hKer, hU, hBd⟩
      refine ⟨trivial, ?_⟩
      cases m with
      | zero => exact absurd hes (by simp)
      | succ m =>
      rw [rg'_cons, List.map_cons, List.cons.injEq] at hes
      obtain ⟨rfl, rfl⟩ := hes
      obtain ⟨b1, b2, b3⟩ := bb_le (show c' < 4 by omega)
      simp only [b_solution_1]
      have k1 := get_mid A G (.lst ds)
      mul_fits
      refine first_with_w k1 (hRw.rws _) (by omega) (by omega) (by omega) (fun q hq1 hq2 hq3 => ?_) (fun hno => ?_)
      · mul_fits
        simp only [b_solution_2]
        obtain ⟨cq, f1, f2, f3⟩ := hRw.2 q hq2
        have a1 := at_ds f2
        have a2 := f3 (.lst ds)
        have a3 := at_vec (r := M q) (show c' < n + 1 by omega)
        obtain ⟨cc, g1, g2, g3⟩ := hRw.2 c' (by omega)
        have a4 := at_ds g2
        mul_fits
        refine scaled_w a2 (by omega) (hBd q hq2) b1 ((hBd q hq2).1 c' (by omega)) hq3 (by omega) ?_
        rw [List.append_assoc (A ++ [Ob.lst ds])]
        have hRw2 := hRw.grow [.lst (vecD (n + 1) (chosen M q c'))]
        have hch := new_at (A := A) (G := G) (o := .lst ds) (p := .lst (vecD (n + 1) (chosen M q c')))
        have hchn : (A ++ [Ob.lst ds] ++ G).length ≠ A.length := by simp
        have efun : (fun j => M q j / M q c') = chosen M q c' := rfl
        rw [efun]
        generalize (A ++ [Ob.lst ds] ++ G).length = ch at hch hchn ⊢
        generalize G ++ [Ob.lst (vecD (n + 1) (chosen M q c'))] = G2 at hRw2 hch ⊢
        have k2 := get_mid A G2 (.lst ds)
        have i1 : ixN ds.length (q : Int) = some q := ix_nat (by rw [hRw.1]; omega)
        obtain ⟨cc2, g1, g2', g3⟩ := hRw2.2 c' (by omega)
        have a4 := at_ds g2'
        mul_fits
        rw [set_mid]
        have hRw3 := hRw2.put (q := q) g1 g3
        have k3 := get_mid A G2 (.lst (ds.set q (.ref cc2)))
        have i2 : ixN (ds.set q (.ref cc2)).length (c' : Int) = some c' := ix_nat (by rw [hRw3.1]; omega)
        mul_fits
        rw [set_mid]
        have hRw4 := hRw3.put (q := c') hchn hch
        have hRw5 : RwA A G2 c (n + 1) ((ds.set q (.ref cc2)).set c' (.ref ch)) (swapped M q c') := hRw4.congr fun k j hk hj => rfl
        generalize (ds.set q (.ref cc2)).set c' (.ref ch) = ds2 at hRw5 ⊢
        clear hRw4 hRw3 k3 i2
        have sq2 : sqOf (A ++ [.lst ds2] ++ G2) (.val (.ref A.length)) = some ds2 := by simp only [sqOf, lsOf, get_mid]
        have hl2 := hRw5.1
        mul_fits
        rw [hl2, rgD_0]
        refine loopS_w (fun es ρ S' => ∃ (k0 m : Nat) (ds : List D) (G : Sto) (o6 : Option D), k0 + m = c ∧ es = (List.range' k0 m).map natD ∧ S' = A ++ [.lst ds] ++ G ∧ ρ = [some (.ref a), some (.int (n : Int)), some (.ref A.length), some (.int (c' : Int)), some (.int (q : Int)), some (.ref ch), o6, none] ∧ RwA A G c (n + 1) ds (fun k => if k < k0 then stepM M q c' k else swapped M q c' k) ∧ ∀ o, (A ++ [o] ++ G)[ch]? = some (.lst (vecD (n + 1) (chosen M q c')))) ?_ ?_ _ _ _ ⟨0, c, ds2, G2, _, by omega, rfl, rfl, rfl, hRw5.congr fun k j _ _ => by rw [if_neg (by omega)], hch⟩
        · rintro d es ρ S' ⟨k0, m2, ds, G, o6, hkm, hes, rfl, rfl, hRw, hch⟩
          refine ⟨trivial, ?_⟩
          cases m2 with
          | zero => exact absurd hes (by simp)
          | succ m2 =>
          rw [rg'_cons, List.map_cons, List.cons.injEq] at hes
          obtain ⟨rfl, rfl⟩ := hes
          obtain ⟨ck, f1, f2, f3⟩ := hRw.2 k0 (by omega)
          have ek0 : (fun k => if k < k0 then stepM M q c' k else swapped M q c' k) k0 = swapped M q c' k0 := if_neg (by omega)
          have f3' : ∀ o, (A ++ [o] ++ G)[ck]? = some (.lst (vecD (n + 1) (swapped M q c' k0))) := fun o => by rw [f3 o, ek0]
          have k1 := get_mid A G (.lst ds)
          have a1 := at_ds f2
          have a2 := f3' (.lst ds)
          have a3 := at_vec (r := swapped M q c' k0) (show c' < n + 1 by omega)
          have skip : (∀ j, j < n + 1 → stepM M q c' k0 j = swapped M q c' k0 j) → RwA A G c (n + 1) ds (fun k => if k < k0 + 1 then stepM M q c' k else swapped M q c' k) := fun he => hRw.congr fun k j hk hj => by
            by_cases e : k < k0
            · rw [if_pos e, if_pos (by omega)]
            · by_cases e2 : k = k0
              · subst e2
                rw [if_neg (by omega), if_pos (by omega)]
                exact (he j hj).symm
              · rw [if_neg (by omega), if_neg (by omega)]
          simp only [b_solution_3]
          mul_fits
          by_cases e : k0 = c'
          · subst e
            refine w_if_F (by simp) ?_
            mul_fits
            refine ⟨_, .inl rfl, k0 + 1, m2, ds, G, _, by omega, rfl, rfl, rfl, skip fun j hj => ?_, hch⟩
            unfold stepM swapped
            rw [if_pos rfl, if_pos rfl]
          · refine w_if_T (by simp; omega) ?_
            mul_fits
            rw [q0]
            refine w_neq ?_
            mul_fits
            by_cases z : swapped M q c' k0 c' = 0
            · refine w_if_F (by simp [z]) ?_
              mul_fits
              refine ⟨_, .inl rfl, k0 + 1, m2, ds, G, _, by omega, rfl, rfl, rfl, skip fun j hj => ?_, hch⟩
              unfold stepM
              rw [if_neg e, z]
              grind
            · refine w_if_T (by simp [z]) ?_
              mul_fits
              refine cleared_w (show c' < n by omega) a2 (hch _) (by omega) (swapped_vb hBd hq2 (by omega) (by omega) e) (chosen_vb hBd hq2 (by omega) hq3) b1 (by omega) ?_
              rw [List.append_assoc (A ++ [Ob.lst ds])]
              have efun : (fun j => swapped M q c' k0 j - swapped M q c' k0 c' * chosen M q c' j) = stepM M q c' k0 := by
                unfold stepM
                rw [if_neg e]
              rw [efun]
              have hRw2 := hRw.grow [.lst (vecD (n + 1) (stepM M q c' k0))]
              have hnew := new_at (A := A) (G := G) (o := .lst ds) (p := .lst (vecD (n + 1) (stepM M q c' k0)))
              have hnn : (A ++ [Ob.lst ds] ++ G).length ≠ A.length := by simp
              have hch2 : ∀ o, (A ++ [o] ++ (G ++ [.lst (vecD (n + 1) (stepM M q c' k0))]))[ch]? = some (.lst (vecD (n + 1) (chosen M q c'))) := fun o => by rw [← List.append_assoc]; exact get_pre (hch o)
              generalize (A ++ [Ob.lst ds] ++ G).length = nw at hnew hnn ⊢
              generalize G ++ [Ob.lst (vecD (n + 1) (stepM M q c' k0))] = G2 at hRw2 hnew hch2 ⊢
              have k2 := get_mid A G2 (.lst ds)
              have i1 : ixN ds.length (k0 : Int) = some k0 := ix_nat (by rw [hRw.1]; omega)
              mul_fits
              rw [set_mid]
              refine ⟨_, .inl rfl, k0 + 1, m2, ds.set k0 (.ref nw), G2, _, by omega, rfl, rfl, rfl, (hRw2.put (q := k0) hnn hnew).congr fun k j hk hj => ?_, hch2⟩
              by_cases e1 : k = k0
              · subst e1
                rw [if_pos rfl, if_pos (by omega)]
              · rw [if_neg e1]
                by_cases e2 : k < k0
                · rw [if_pos e2, if_pos (by omega)]
                · rw [if_neg e2, if_neg (by omega)]
        · rintro ρ S' ⟨k0, m2, ds, G, o6, hkm, hes, rfl, rfl, hRw, hch⟩
          refine ⟨trivial, ?_⟩
          cases m2 with
          | succ m2 => exact absurd hes (by simp [rg'_cons])
          | zero =>
          mul_fits
          refine ⟨_, .inl rfl, c' + 1, m, ds, G, stepM M q c', _, _, _, _, by omega, rfl, rfl, rfl, hRw.congr fun k j hk hj => by rw [if_pos (by omega)], fun x => (ker_step (by omega) hq2 hq3).trans (hKer x), unit_step (by omega) hq2 hq1 hq3 hU, step_vb hBd hq2 (by omega) (by omega) hq3⟩
      · obtain ⟨q, p1, p2, p3⟩ := pivot (show c' < n by omega) hU fun x hx => hk x ((hKer x).mp hx)
        exact absurd (hno q p1 p2) p3
    · rintro ρ S' ⟨c', m, ds, G, M, o3, o4, o5, o6, hcm', hes, rfl, rfl, hRw, hKer, hU, hBd⟩
      refine ⟨trivial, ?_⟩
      cases m with
      | succ m => exact absurd hes (by simp [rg'_cons])
      | zero =>
      have hcn : c' = n := by omega
      subst hcn
      obtain ⟨hA1, hA2⟩ := h M hKer hU hBd
      have hgc : ∀ d, below S.length d → Q d S → W (gc S d (A ++ [Ob.lst ds] ++ G)) Q := fun d hb hq => by
        rw [← hAe, List.append_assoc, List.append_assoc, gc_app hb]
        exact w_ok hq
      have k1 := get_mid A G (.lst ds)
      have sq2 : sqOf (A ++ [.lst ds] ++ G) (.val (.ref A.length)) = some ds := by simp only [sqOf, lsOf, k1]
      have hl2 := hRw.1
      mul_fits
      simp only [b_solution_4]
      mul_fits
      rw [hl2, rgD_nat]
      refine loopS_r (fun es ρ S' => ∃ (q m : Nat) (o6 : Option D), q + m = c ∧ c' ≤ q ∧ es = (List.range' q m).map natD ∧ S' = A ++ [.lst ds] ++ G ∧ ρ = [some (.ref a), some (.int (c' : Int)), some (.ref A.length), o3, o4, o5, o6, none] ∧ ∀ j, c' ≤ j → j < q → M j c' = 0) ?_ ?_ _ _ _ ⟨c', c - c', _, by omega, Nat.le_refl _, rfl, rfl, rfl, fun j a b => absurd a (by omega)⟩
      · rintro d es ρ S' ⟨q, m, o6, hqm, hsq, hes, rfl, rfl, hz⟩
        refine ⟨trivial, ?_⟩
        cases m with
        | zero => exact absurd hes (by simp)
        | succ m =>
        rw [rg'_cons, List.map_cons, List.cons.injEq] at hes
        obtain ⟨rfl, rfl⟩ := hes
        obtain ⟨cq, f1, f2, f3⟩ := hRw.2 q (by omega)
        have a1 := at_ds f2
        have a2 := f3 (.lst ds)
        have a3 := at_vec (r := M q) (show c' < c' + 1 by omega)
        simp only [b_solution_5]
        mul_fits
        rw [q0]
        refine w_neq ?_
        mul_fits
        by_cases z : M q c' = 0
        · refine w_if_F (by simp [z]) ?_
          mul_fits
          exact ⟨q + 1, m, _, by omega, by omega, rfl, rfl, rfl, fun j h1 h2 => by
            by_cases e : j = q
            · subst e
              exact z
            · exact hz j h1 (by omega)⟩
        · refine w_if_T (by simp [z]) ?_
          mul_fits
          exact hgc _ (by simp [below]) (hA2 ⟨q, hsq, by omega, z⟩)
      · rintro ρ S' ⟨q, m, o6, hqm, hsq, hes, rfl, rfl, hz⟩
        refine ⟨trivial, ?_⟩
        cases m with
        | succ m => exact absurd hes (by simp [rg'_cons])
        | zero =>
        mul_fits
        simp only [b_solution_6]
        mul_fits
        refine ⟨le64 (by show (rgD 0 _).length ≤ 64; simp [rgD]; omega), ?_⟩
        refine comp_vec (fun j Q' hj hq => ?_) ?_ (f := fun q => M q c')
        · obtain ⟨cq, f1, f2, f3⟩ := hRw.2 j (by omega)
          have a1 := at_ds f2
          have a2 := f3 (.lst ds)
          have a3 := at_vec (r := M j) (show c' < c' + 1 by omega)
          mul_fits
          exact hq
        · mul_fits
          refine hgc _ ?_ (hA1 fun j h1 h2 => hz j h1 (by omega))
          show belows _ _
          refine belows_iff.mpr fun x hx => ?_
          obtain ⟨j, _, rfl⟩ := List.mem_map.mp hx
          exact ⟨trivial, trivial, trivial⟩
end
/-! ### the combination; the law's elimination -/
/-- a comprehension: each item makes one, and nothing else -/
theorem comp_gen {C : Orc} {ρ : En} {S : Sto} {own : List Nat} {v n : Nat} {e : CE} {F Gd : Nat → D} {QQ : List D → Sto → Prop} {at_ : Option Nat} (hst : Itv.still ⟨(List.range n).map Gd, at_⟩ S)
    (he : ∀ (j : Nat) (Q' : D → Sto → Prop), j < n → Q' (F j) S → W (evE C e ((wipeE ρ own).set v (some (Gd j))) S) Q')
    (h : QQ ((List.range n).map F) S) : W (loopQ (Itv.still ⟨(List.range n).map Gd, at_⟩) (fun d S2 => may (bindN (.nm v) d (wipeE ρ own) S2) fun ρ' => (evE C e ρ' S2).bind fun x S3 => .ok (some x) S3) ((List.range n).map Gd) S) QQ := by
  refine loopQ_w (fun ds r S' => S' = S ∧ ∃ c m, c + m = n ∧ ds = (List.range' c m).map Gd ∧ r = ((List.range n).map F).take c) ?_ ?_ _ _ ⟨rfl, 0, n, by omega, by rw [← List.range_eq_range'], rfl⟩
  · rintro d ds r S' ⟨rfl, c, m, hcm, hds, rfl⟩
    refine ⟨hst, ?_⟩
    cases m with
    | zero => exact absurd hds (by simp)
    | succ m =>
    rw [rg'_cons, List.map_cons, List.cons.injEq] at hds
    obtain ⟨rfl, rfl⟩ := hds
    show W (Res.bind _ _) _
    refine w_bind (he c _ (by omega) (w_ok ⟨rfl, c + 1, m, by omega, rfl, ?_⟩))
    rw [List.take_succ_eq_append_getElem (by simp; omega)]
    simp
  · rintro r S' ⟨rfl, c, m, hcm, hds, rfl⟩
    refine ⟨hst, ?_⟩
    cases m with
    | succ m => exact absurd hds (by simp [rg'_cons])
    | zero =>
    rw [List.take_of_length_le (by simp; omega)]
    exact h
theorem vec_below {w n : Nat} {r : Nat → Rat} : below n (.tup (vecD w r)) := by
  show belows _ _
  refine belows_iff.mpr fun x hx => ?_
  obtain ⟨j, _, rfl⟩ := List.mem_map.mp hx
  exact ⟨trivial, trivial, trivial⟩
section
variable {k : Nat} {S A G : Sto} {Q : D → Sto → Prop} {n w N c : Nat} {M r : Mx} {ds : List D} {b : Nat → Rat} {p : Nat → Nat} {o : List Nat}
theorem RwA.snoc (h : RwA A G c N ds M) {q : Nat} (hq : q ≠ A.length) (e : ∀ o, (A ++ [o] ++ G)[q]? = some (.lst (vecD N (M c)))) : RwA A G (c + 1) N (ds ++ [.ref q]) M := ⟨by simp [h.1], fun k hk => by
  by_cases e1 : k = c
  · subst e1
    exact ⟨q, hq, by rw [List.getElem?_append_right (by rw [h.1]; omega), h.1]; simp, e⟩
  · obtain ⟨c', h1, h2, h3⟩ := h.2 k (by omega)
    exact ⟨c', h1, by rw [List.getElem?_append_left (by rw [h.1]; omega)]; exact h2, h3⟩⟩
theorem combination_w (hw : w ≤ 6) (hn : n ≤ 4) (hnw : n ≤ w) (ht : Tri w n r p) (ho : o.Perm (List.range n)) (hr : ∀ k j, k < n → j < w → QB 3 (r k j)) (hb : ∀ j, j < w → QB 31 (b j))
    (h : ∀ M, (∀ x, Ker w (n + 1) M x ↔ Ker w (n + 1) (sysM r b n o) x) → Unit w n M → Bd w n (bb n).1 (bb n).2 M → ((∀ q, n ≤ q → q < w → M q n = 0) → Q (.tup (vecD n fun q => M q n)) S) ∧ ((∃ q, n ≤ q ∧ q < w ∧ M q n ≠ 0) → Q .non S)) :
    W (orc T (k + 5) 8 [.tup ((List.range n).map fun i => .tup (vecD w (r (o.getD i 0)))), .tup (vecD w b)] S) Q := by
  refine orc_w (ρ := [some (.tup ((List.range n).map fun i => .tup (vecD w (r (o.getD i 0))))), some (.tup (vecD w b)), none, none, none]) rfl rfl rfl ?_
  show W (evSs _ b_combination _ _) _
  simp only [b_combination]
  mul_fits
  rw [vec_len]
  mul_fits
  rw [rgD_0]
  have hl : o.length = n := by rw [ho.length_eq, List.length_range]
  refine loopS_w (fun es ρ S' => ∃ (c m : Nat) (ls : List D) (G : Sto) (o3 : Option D), c + m = w ∧ es = (List.range' c m).map natD ∧ S' = S ++ [.lst ls] ++ G ∧ ρ = [some (.tup ((List.range n).map fun i => .tup (vecD w (r (o.getD i 0))))), some (.tup (vecD w b)), some (.ref S.length), o3, none] ∧ RwA S G c (n + 1) ls (sysM r b n o)) ?_ ?_ _ _ _ ⟨0, w, [], [], _, by omega, rfl, by simp, rfl, rfl, fun k hk => absurd hk (by omega)⟩
  · rintro d es ρ S' ⟨c, m, ls, G, o3, hcm, hes, rfl, rfl, hR⟩
    refine ⟨trivial, ?_⟩
    cases m with
    | zero => exact absurd hes (by simp)
    | succ m =>
    rw [rg'_cons, List.map_cons, List.cons.injEq] at hes
    obtain ⟨rfl, rfl⟩ := hes
    simp only [b_combination_1]
    have k1 := get_mid S G (.lst ls)
    mul_fits
    refine ⟨le64 (by show ((List.range n).map _).length ≤ 64; simp; omega), ?_⟩
    refine comp_gen trivial (F := fun i => qD (r (o.getD i 0) c)) (fun j Q' hj hq => ?_) ?_
    · have a1 := at_vec (r := r (o.getD j 0)) (show c < w by omega)
      mul_fits
      exact hq
    · have a1 := at_vec (r := b) (show c < w by omega)
      mul_fits
      refine w_ask (le64 (by simp; omega)) ?_
      have ev : ((List.range n).map fun i => qD (r (o.getD i 0) c)) ++ [qD (b c)] = vecD (n + 1) (sysM r b n o c) := by
        have e1 : sysM r b n o c n = b c := if_pos rfl
        rw [vec_succ, e1]
        congr 1
        exact vec_congr fun j hj => (if_neg (by omega) : sysM r b n o c j = r (o.getD j 0) c).symm
      rw [ev]
      mul_fits
      rw [List.append_assoc (S ++ [Ob.lst ls])]
      have hR2 := hR.grow [.lst (vecD (n + 1) (sysM r b n o c))]
      have hnew := new_at (A := S) (G := G) (o := .lst ls) (p := .lst (vecD (n + 1) (sysM r b n o c)))
      have hnn : (S ++ [Ob.lst ls] ++ G).length ≠ S.length := by simp
      generalize (S ++ [Ob.lst ls] ++ G).length = nw at hnew hnn ⊢
      generalize G ++ [Ob.lst (vecD (n + 1) (sysM r b n o c))] = G2 at hR2 hnew ⊢
      have k2 := get_mid S G2 (.lst ls)
      refine v_app k2 (by rw [hR.1]; exact le_size (by omega)) ?_
      rw [set_mid]
      mul_fits
      exact ⟨_, .inl rfl, c + 1, m, ls ++ [.ref nw], G2, _, by omega, rfl, rfl, rfl, hR2.snoc hnn hnew⟩
  · rintro ρ S' ⟨c, m, ls, G, o3, hcm, hes, rfl, rfl, hR⟩
    refine ⟨trivial, ?_⟩
    cases m with
    | succ m => exact absurd hes (by simp [rg'_cons])
    | zero =>
    have hcw : c = w := by omega
    subst hcw
    mul_fits
    simp only [b_combination_2]
    have k1 := get_mid S G (.lst ls)
    mul_fits
    rw [show ((List.range n).map fun i => D.tup (vecD c (r (o.getD i 0)))).length = n by simp]
    have hgc : ∀ d, below S.length d → Q d S → W (gc S d (S ++ [Ob.lst ls] ++ G)) Q := fun d hb hq => by
      rw [List.append_assoc, gc_app hb]
      exact w_ok hq
    have hB : Bd c n 3 31 (sysM r b n o) := fun k hk => ⟨fun j hj => by
      have e1 : sysM r b n o k j = r (o.getD j 0) k := if_neg (by omega)
      rw [e1]
      refine hr _ _ ?_ hk
      have e : o.getD j 0 = o[j] := by simp [List.getD, hl, hj]
      rw [e]
      exact List.mem_range.mp (ho.mem_iff.mp (List.getElem_mem (by omega))), by
      have e1 : sysM r b n o k n = b k := if_pos rfl
      rw [e1]
      exact hb k hk⟩
    refine solution_w k1 (hR.rws _) hw hn hnw hB (fun x hx => sys_ker ht ho hx) fun M h1 h2 h3 => ?_
    obtain ⟨q1, q2⟩ := h M h1 h2 h3
    refine ⟨fun z => ?_, fun z => ?_⟩
    · mul_fits
      exact hgc _ vec_below (q1 z)
    · mul_fits
      exact hgc _ (by simp [below]) (q2 z)
def lb : Nat → Nat
  | 0 => 31
  | c + 1 => 2 * lb c + 7
theorem lb_le {c : Nat} (h : c < 4) : lb c ≤ 297 := by
  match c, h with
  | 0, _ => decide
  | 1, _ => decide
  | 2, _ => decide
  | 3, _ => decide
theorem lb_le4 {c : Nat} (h : c ≤ 4) : lb c ≤ 601 := by
  match c, h with
  | 0, _ => decide
  | 1, _ => decide
  | 2, _ => decide
  | 3, _ => decide
  | 4, _ => decide
theorem bools_dec (l : List Nat) (P : Nat → Bool) : boolsOf (l.map fun j => D.bl (P j)) = some (l.map P) := by
  have := bools_map (l.map P)
  rw [List.map_map] at this
  exact this
theorem lcleared_w {ir ip ib : Nat} {dsr : List D} (hw : w ≤ 6) (hn : n ≤ 4) (ht : Tri w n r p) (hr : ∀ k j, k < n → j < w → QB 3 (r k j)) (hb : ∀ j, j < w → QB 31 (b j))
    (h1 : S[ir]? = some (.lst dsr)) (h2 : Rws S n w dsr r) (h3 : S[ip]? = some (.lst ((List.range n).map fun q => natD (p q)))) (h4 : S[ib]? = some (.lst (vecD w b)))
    (hy : (∀ a, a < w → leftF r p b n a = 0) → ∀ (idx : Nat) (g : Sto), S.length ≤ idx → (S ++ g)[idx]? = some (.lst (vecD n (fF r p b))) → Q (.ref idx) (S ++ g))
    (hno : (¬∀ a, a < w → leftF r p b n a = 0) → Q .non S) : W (orc T (k + 4) 23 [.ref ir, .ref ip, .ref ib] S) Q := by
  refine orc_w (ρ := [some (.ref ir), some (.ref ip), some (.ref ib), none, none, none, none, none, none]) rfl rfl rfl ?_
  show W (evSs _ b__law_cleared _ _) _
  simp only [b__law_cleared]
  have ls : lstOf S (.val (.ref ib)) = some (vecD w b) := by simp only [lstOf, sqOf, lsOf, h4]
  mul_fits
  refine w_may ls ?_
  mul_fits
  have h1' : ∀ g, (S ++ g)[ir]? = some (.lst dsr) := fun g => get_pre h1
  have sq : sqOf (S ++ [.lst (vecD w b)] ++ [.lst []]) (.val (.ref ir)) = some dsr := by
    rw [List.append_assoc]
    simp only [sqOf, lsOf, h1']
  have hl := h2.1
  mul_fits
  rw [hl, rgD_0]
  have hA0 : ∀ o, (S ++ [Ob.lst (vecD w b)] ++ [o] ++ ([] : Sto))[S.length]? = some (.lst (vecD w b)) := fun o => by simp
  have hA1 : S.length ≠ (S ++ [Ob.lst (vecD w b)]).length := by simp
  have hpre : ∀ o G, ∃ g, S ++ [Ob.lst (vecD w b)] ++ [o] ++ G = S ++ g := fun o G => ⟨_, by rw [List.append_assoc, List.append_assoc]⟩
  have hAS : S.length ≤ (S ++ [Ob.lst (vecD w b)]).length := by simp
  generalize S ++ [Ob.lst (vecD w b)] = A at hA0 hA1 hpre hAS ⊢
  refine loopS_w (fun es ρ S' => ∃ (c m li : Nat) (G : Sto) (o5 o6 : Option D), c + m = n ∧ es = (List.range' c m).map natD ∧ S' = A ++ [.lst (vecD c (fF r p b))] ++ G ∧ ρ = [some (.ref ir), some (.ref ip), some (.ref ib), some (.ref li), some (.ref A.length), o5, o6, none, none] ∧ li ≠ A.length ∧ (∀ o, (A ++ [o] ++ G)[li]? = some (.lst (vecD w (leftF r p b c)))) ∧ ∀ a, a < w → QB (lb c) (leftF r p b c a)) ?_ ?_ _ _ _ ⟨0, n, S.length, [], _, _, by omega, rfl, by simp [vecD], rfl, hA1, hA0, hb⟩
  · rintro d es ρ S' ⟨c, m, li, G, o5, o6, hcm, hes, rfl, rfl, hli, hL, hB⟩
    refine ⟨trivial, ?_⟩
    cases m with
    | zero => exact absurd hes (by simp)
    | succ m =>
    rw [rg'_cons, List.map_cons, List.cons.injEq] at hes
    obtain ⟨rfl, rfl⟩ := hes
    obtain ⟨t1, t2, t3⟩ := ht c (by omega)
    have hlb := lb_le (show c < 4 by omega)
    simp only [b__law_cleared_1]
    obtain ⟨cr, e1, e2⟩ := h2.2 c (by omega)
    have get : ∀ (o : Ob) (G : Sto) (i : Nat) (q : Ob), S[i]? = some q → (A ++ [o] ++ G)[i]? = some q := fun o G i q e => by
      obtain ⟨g, eg⟩ := hpre o G
      rw [eg]
      exact get_pre e
    have k1 := hL (.lst (vecD c (fF r p b)))
    have k2 := get (.lst (vecD c (fF r p b))) G _ _ h3
    have k3 := get (.lst (vecD c (fF r p b))) G _ _ h1
    have k4 := get (.lst (vecD c (fF r p b))) G _ _ e2
    have k5 := get_mid A G (.lst (vecD c (fF r p b)))
    have a1 := at_ds e1
    have a2 : atI ((List.range n).map fun q => natD (p q)) (c : Int) = some (natD (p c)) := by
      rw [at_nat _ _ (by simp; omega)]
      simp
    have a3 := at_vec (r := leftF r p b c) t1
    have a4 := at_vec (r := r c) t1
    mul_fits
    refine lover_w (hB _ t1) (hr c _ (by omega) t1) t2 (by omega) ?_
    rw [show leftF r p b c (p c) / r c (p c) = fF r p b c from rfl]
    have qf : QB (lb c + 3) (fF r p b c) := (hB _ t1).div (hr c _ (by omega) t1) t2
    mul_fits
    refine v_app k5 (by rw [vec_len]; exact le_size (by omega)) ?_
    rw [set_mid, ← vec_succ]
    have k1' := hL (.lst (vecD (c + 1) (fF r p b)))
    have k3' := get (.lst (vecD (c + 1) (fF r p b))) G _ _ h1
    have k4' := get (.lst (vecD (c + 1) (fF r p b))) G _ _ e2
    have sq1 : sqOf (A ++ [.lst (vecD (c + 1) (fF r p b))] ++ G) (.val (.ref li)) = some (vecD w (leftF r p b c)) := by simp only [sqOf, lsOf, k1']
    mul_fits
    rw [vec_len]
    mul_fits
    refine ⟨le64 (by show (rgD 0 _).length ≤ 64; simp [rgD]; omega), ?_⟩
    refine comp_vec (fun j Q' hj hq => ?_) ?_ (f := leftF r p b (c + 1))
    · have a5 := at_vec (r := leftF r p b c) hj
      have a6 := at_vec (r := r c) hj
      mul_fits
      refine ltimes_w qf (hr c j (by omega) hj) (by omega) ?_
      mul_fits
      exact lminus_w (hB j hj) (qf.mul (hr c j (by omega) hj)) (by omega) hq
    · mul_fits
      rw [List.append_assoc (A ++ [Ob.lst (vecD (c + 1) (fF r p b))])]
      have hnew := new_at (A := A) (G := G) (o := .lst (vecD (c + 1) (fF r p b))) (p := .lst (vecD w (leftF r p b (c + 1))))
      have hnn : (A ++ [Ob.lst (vecD (c + 1) (fF r p b))] ++ G).length ≠ A.length := by simp
      refine ⟨_, .inl rfl, c + 1, m, _, _, _, _, by omega, rfl, rfl, rfl, hnn, hnew, fun a ha => ?_⟩
      exact ((hB a ha).sub (qf.mul (hr c a (by omega) ha))).mono (by show _ ≤ 2 * lb c + 7; omega)
  · rintro ρ S' ⟨c, m, li, G, o5, o6, hcm, hes, rfl, rfl, hli, hL, hB⟩
    refine ⟨trivial, ?_⟩
    cases m with
    | succ m => exact absurd hes (by simp [rg'_cons])
    | zero =>
    have hcn : c = n := by omega
    subst hcn
    mul_fits
    simp only [b__law_cleared_2]
    have k1 := hL (.lst (vecD c (fF r p b)))
    have it : itOf (.val (.ref li)) (A ++ [.lst (vecD c (fF r p b))] ++ G) = some ⟨vecD w (leftF r p b c), some li⟩ := by simp only [itOf, sqOf, lsOf, k1]; rfl
    mul_fits
    refine w_may it ?_
    mul_fits
    refine ⟨le64 (by show (vecD w _).length ≤ 64; rw [vec_len]; omega), ?_⟩
    refine comp_gen (F := fun j => .bl (decide (leftF r p b c j = 0))) k1 (fun j Q' hj hq => ?_) ?_
    · mul_fits
      rw [q0]
      refine w_eqq ?_
      exact hq
    · mul_fits
      refine v_all rfl (bools_dec _ _) ?_
      mul_fits
      obtain ⟨g, eg⟩ := hpre (.lst (vecD c (fF r p b))) G
      by_cases hz : ∀ a, a < w → leftF r p b c a = 0
      · refine w_if_T ?_ ?_
        · rw [List.all_eq_true]
          intro x hx
          obtain ⟨j, hj, rfl⟩ := List.mem_map.mp hx
          simpa using hz j (List.mem_range.mp hj)
        · mul_fits
          rw [gc_out (by simp [below]; omega)]
          have k5 := get_mid A G (.lst (vecD c (fF r p b)))
          rw [eg] at k5 ⊢
          exact w_ok (hy hz _ g hAS k5)
      · refine w_if_F ?_ ?_
        · rw [Bool.eq_false_iff]
          intro ha
          rw [List.all_eq_true] at ha
          refine hz fun a ha' => ?_
          have := ha _ (List.mem_map.mpr ⟨a, List.mem_range.mpr ha', rfl⟩)
          simpa using this
        · mul_fits
          rw [eg, gc_app (by simp [below])]
          exact w_ok (hno hz)
end
/-! ### draws -/
section
variable {k : Nat} {R : Sto} {Q : D → Sto → Prop} {d : DS} {m : Int}
theorem draw_ (h1 : 0 < m) (h2 : m < 1073741824) (h : ∀ (y : Int) (d' : DS), 0 ≤ y → y < m → Q (.int y) (d'.st R)) : W (orc T (k + 1) 10 [.ref 1, .int m] (d.st R)) Q := draw_w rfl h1 h2 h
theorem st_mid {o : Ob} {g : Sto} : (d.st (R ++ [o] ++ g))[R.length + 2]? = some o := by rw [st_get]; exact get_mid R g o
theorem st_set_mid {o p : Ob} {g : Sto} : (d.st (R ++ [o] ++ g)).set (R.length + 2) p = d.st (R ++ [p] ++ g) := by
  show DS.st d _ = _
  unfold DS.st
  have := set_mid R g o p
  simp only [List.set_cons_succ, this]
theorem st_set (d : DS) {R : Sto} {i : Nat} {p : Ob} : (d.st R).set (i + 2) p = d.st (R.set i p) := by
  unfold DS.st
  simp only [List.set_cons_succ]
theorem erase_perm : ∀ (l : List D) (i : Nat) (h : i < l.length), (l[i] :: l.eraseIdx i).Perm l
  | a :: l, 0, _ => .refl _
  | a :: l, i + 1, h => by
    have h' : i < l.length := by simpa using h
    exact (List.Perm.swap a l[i] _).trans ((erase_perm l i h').cons a)
theorem shuffled_w {b : Nat} {row : List D} (hl : row.length < 1000) (hb : R[b]? = some (.lst row)) (h : ∀ (got : List D) (g : Sto) (d' : DS), got.Perm row → Q (.ref (R.length + g.length + 2)) (d'.st (R ++ (g ++ [.lst got])))) : W (orc T (k + 2) 11 [.ref 1, .ref (b + 2)] (d.st R)) Q := by
  refine orc_w (ρ := [some (.ref 1), some (.ref (b + 2)), none, none, none]) rfl rfl rfl ?_
  show W (evSs _ b__law_shuffled _ _) _
  simp only [b__law_shuffled]
  have hq : (d.st R)[b + 2]? = some (.lst row) := hb
  have g1 : lstOf (d.st R) (.val (.ref (b + 2))) = some row := by simp only [lstOf, sqOf, lsOf, hq]
  mul_fits
  refine w_may g1 ?_
  mul_fits
  simp only [st_len, st_app]
  have hr1 : (d.st (R ++ [.lst row] ++ [.lst []]))[R.length + 2]? = some (.lst row) := st_mid
  have g2 : sqOf (d.st (R ++ [.lst row] ++ [.lst []])) (.val (.ref (R.length + 2))) = some row := by simp only [sqOf, lsOf, hr1]
  mul_fits
  rw [rgD0]
  refine loopS_w (fun ds ρ S' => ∃ (ks : List Nat) (left got : List D) (o4 : Option D) (d' : DS), ds = ks.map natD ∧ S' = d'.st (R ++ [.lst left] ++ [.lst got]) ∧ ρ = [some (.ref 1), some (.ref (b + 2)), some (.ref (R.length + 2)), some (.ref ((R ++ [Ob.lst row]).length + 2)), o4] ∧ left.length = ks.length ∧ (got ++ left).Perm row) ?_ ?_ _ _ _ ⟨List.range row.length, row, [], _, d, rfl, rfl, rfl, by simp, .refl _⟩
  · rintro e ds ρ S' ⟨ks, left, got, o4, d', hds, rfl, rfl, h1, h2⟩
    refine ⟨trivial, ?_⟩
    cases ks with
    | nil => exact absurd hds (by simp)
    | cons q ks =>
    rw [List.map_cons, List.cons.injEq] at hds
    obtain ⟨rfl, rfl⟩ := hds
    rw [List.length_cons] at h1
    have hgl : got.length + left.length = row.length := by rw [← List.length_append]; exact h2.length_eq
    simp only [b__law_shuffled_1]
    have k1 : ∀ d : DS, (d.st (R ++ [.lst left] ++ [.lst got]))[R.length + 2]? = some (.lst left) := fun d => st_mid
    have k2 : ∀ (d : DS) l, (d.st (R ++ [.lst l] ++ [.lst got]))[(R ++ [Ob.lst row]).length + 2]? = some (.lst got) := fun d l => by rw [st_get]; simp
    have g3 : sqOf (d'.st (R ++ [.lst left] ++ [.lst got])) (.val (.ref (R.length + 2))) = some left := by simp only [sqOf, lsOf, k1]
    mul_fits
    refine w_withL (k2 _ _) ?_
    mul_fits
    refine w_withL (k1 _) ?_
    mul_fits
    refine draw_ (m := (left.length : Int)) (by omega) (by omega) fun y d1 y0 y1 => ?_
    have hy : y.toNat < left.length := by omega
    have yb : -(2 ^ 63) ≤ y ∧ y < 2 ^ 63 := by constructor <;> omega
    refine v_popAt (k := y.toNat) (d := left[y.toNat]) (k1 d1) yb ?_ (by simp [hy]) ?_
    · have e0 : ¬ y < 0 := by omega
      show (if 0 ≤ (if y < 0 then y + (left.length : Int) else y) && decide ((if y < 0 then y + (left.length : Int) else y) < (left.length : Int)) then some (if y < 0 then y + (left.length : Int) else y).toNat else none) = some y.toNat
      rw [if_neg e0]
      simp [y0, y1]
    rw [st_set_mid]
    refine v_app (k2 _ _) (le_size (by omega)) ?_
    have se : (d1.st (R ++ [.lst (left.eraseIdx y.toNat)] ++ [.lst got])).set ((R ++ [Ob.lst row]).length + 2) (.lst (got ++ [left[y.toNat]])) = d1.st (R ++ [.lst (left.eraseIdx y.toNat)] ++ [.lst (got ++ [left[y.toNat]])]) := by
      rw [st_set]
      have := set_end (R ++ [Ob.lst (left.eraseIdx y.toNat)]) (.lst got) (.lst (got ++ [left[y.toNat]]))
      have e2 : (R ++ [Ob.lst row]).length = (R ++ [Ob.lst (left.eraseIdx y.toNat)]).length := by simp
      rw [e2, this]
    rw [se]
    mul_fits
    refine ⟨_, .inl rfl, ks, left.eraseIdx y.toNat, got ++ [left[y.toNat]], _, d1, rfl, rfl, rfl, ?_, ?_⟩
    · rw [List.length_eraseIdx, if_pos hy]
      omega
    · rw [List.append_assoc]
      refine List.Perm.trans ?_ h2
      refine List.Perm.append_left _ ?_
      exact erase_perm _ _ hy
  · rintro ρ S' ⟨ks, left, got, o4, d', hds, rfl, rfl, h1, h2⟩
    refine ⟨trivial, ?_⟩
    cases ks with
    | cons q ks => exact absurd hds (by simp)
    | nil =>
    have hl0 : left = [] := List.eq_nil_of_length_eq_zero h1
    subst hl0
    rw [List.append_nil] at h2
    mul_fits
    simp only [b__law_shuffled_2]
    mul_fits
    rw [gc_out (by simp [below, st_len])]
    have := h got [.lst []] d' h2
    rw [List.append_assoc, show (R ++ [Ob.lst row]).length + 2 = R.length + [Ob.lst ([] : List D)].length + 2 by simp]
    exact w_ok this
theorem cut_take {l : List D} {m : Nat} : PQ.cutD l none (some (m : Int)) = l.take m := by
  unfold PQ.cutD
  simp only [HT.sIx]
  rw [if_neg (by omega), List.drop_zero, Int.toNat_natCast, Nat.sub_zero]
  by_cases h : m ≤ l.length
  · rw [Nat.min_eq_left h]
  · rw [Nat.min_eq_right (by omega), List.take_length, List.take_of_length_le (by omega)]
theorem some_w {b m : Nat} {row : List D} (hl : row.length < 1000) (hb : R[b]? = some (.lst row)) (h : ∀ (full : List D) (g : Sto) (d' : DS), full.Perm row → Q (.ref (R.length + g.length + 2)) (d'.st (R ++ (g ++ [.lst (full.take m)])))) : W (orc T (k + 3) 12 [.ref 1, .ref (b + 2), .int (m : Int)] (d.st R)) Q := by
  refine orc_w (ρ := [some (.ref 1), some (.ref (b + 2)), some (.int (m : Int))]) rfl rfl rfl ?_
  show W (evSs _ b__law_some _ _) _
  simp only [b__law_some]
  mul_fits
  refine shuffled_w hl hb fun got g d' h1 => ?_
  have k1 : (d'.st (R ++ (g ++ [.lst got])))[R.length + g.length + 2]? = some (.lst got) := by
    rw [st_get, ← List.append_assoc, show R.length + g.length = (R ++ g).length by simp]
    exact get_end _ _
  mul_fits
  rw [cut_take, st_len, st_app, gc_out (by simp [below, st_len])]
  have := h got (g ++ [.lst got]) d' h1
  refine w_ok ?_
  have e1 : R ++ (g ++ [Ob.lst got]) ++ [Ob.lst (got.take m)] = R ++ (g ++ [Ob.lst got] ++ [Ob.lst (got.take m)]) := by simp
  have e2 : (R ++ (g ++ [Ob.lst got])).length + 2 = R.length + (g ++ [Ob.lst got]).length + 2 := by simp
  rw [e1, e2]
  exact this
theorem some_frac_w (h : ∀ (q : Rat) (d' : DS), QB 3 q → Q (qD q) (d'.st R)) : W (orc T (k + 3) 21 [.ref 1] (d.st R)) Q := by
  refine orc_w (ρ := [some (.ref 1)]) rfl rfl rfl ?_
  show W (evSs _ b__law_some_frac _ _) _
  simp only [b__law_some_frac]
  mul_fits
  refine draw_ (by decide) (by decide) fun y d1 y0 y1 => ?_
  mul_fits
  refine draw_ (by decide) (by decide) fun z d2 z0 z1 => ?_
  mul_fits
  refine lfrac_w (by omega) (bd_mono (m := 3) (by omega) (by decide)) (bd_mono (m := 3) (by omega) (by decide)) ?_
  mul_fits
  rw [gc_same (by rfl)]
  exact w_ok (h _ _ (divInt_bd (by omega) (by omega) (by omega)))
/-- a row of drawn fractions -/
theorem drawn_row {v w0 i0 : Nat} {own : List Nat} {ρ : En} {QQ : List D → Sto → Prop} (e0 : ∀ x : D, ((wipeE ρ own).set v (some x))[i0]? = some (some (.ref 1))) (hw : w0 ≤ 60) (h : ∀ (f : Nat → Rat) (d' : DS), (∀ j, j < w0 → QB 3 (f j)) → QQ (vecD w0 f) (d'.st R)) :
    W (loopQ (Itv.still ⟨rgD 0 (w0 : Int), none⟩) (fun d S2 => may (bindN (.nm v) d (wipeE ρ own) S2) fun ρ' => (evE (orc T (k + 3)) (.call 21 (.cons (.var i0) .nil)) ρ' S2).bind fun x S3 => .ok (some x) S3) (rgD 0 (w0 : Int)) (d.st R)) QQ := by
  refine loopQ_w (fun ds r S' => ∃ (l : List Rat) (d' : DS), r = l.map qD ∧ S' = d'.st R ∧ l.length + ds.length = w0 ∧ ∀ q ∈ l, QB 3 q) ?_ ?_ _ _ ⟨[], d, rfl, rfl, by simp [rgD], by simp⟩
  · rintro d0 ds r S' ⟨l, d', rfl, rfl, h1, h2⟩
    refine ⟨trivial, ?_⟩
    show W (Res.bind _ _) _
    refine w_bind (w_call (w_cons (w_var (e0 _) (w_nil ?_))))
    refine some_frac_w fun q d2 hq => ?_
    refine w_ok ⟨l ++ [q], d2, by simp, rfl, by simp at h1 ⊢; omega, fun x hx => ?_⟩
    rcases List.mem_append.mp hx with hx | hx
    · exact h2 x hx
    · simp at hx
      subst hx
      exact hq
  · rintro r S' ⟨l, d', rfl, rfl, h1, h2⟩
    refine ⟨trivial, ?_⟩
    have hl : l.length = w0 := by simpa using h1
    have e : l.map qD = vecD w0 fun j => l.getD j 0 := by
      refine List.ext_getElem (by simp [vecD, hl]) fun i h3 h4 => ?_
      have : i < l.length := by simpa using h3
      simp [vecD, this]
    rw [e]
    refine h _ d' fun j hj => ?_
    have e2 : l.getD j 0 = l[j] := by simp [List.getD, hl, hj]
    rw [e2]
    exact h2 _ (List.getElem_mem _)
theorem vec_set {w0 i : Nat} {f : Nat → Rat} {q : Rat} : (vecD w0 f).set i (qD q) = vecD w0 fun a => if a = i then q else f a := by
  refine List.ext_getElem (by simp [vecD]) fun j h1 h2 => ?_
  by_cases e : j = i
  · subst e
    simp [vecD]
  · rw [List.getElem_set_ne (by omega)]
    simp [vecD, e]
/-- the rows and the places, in the store -/
def Rw2 (R : Sto) (w n ir ip : Nat) (r : Mx) (p : Nat → Nat) : Prop := (∃ ds, R[ir]? = some (.lst ds) ∧ ds.length = n ∧ ∀ k, k < n → ∃ c, ds[k]? = some (.ref (c + 2)) ∧ R[c]? = some (.lst (vecD w (r k)))) ∧ R[ip]? = some (.lst ((List.range n).map fun q => natD (p q)))
theorem Rw2.pre {R g : Sto} {w n ir ip : Nat} {r : Mx} {p : Nat → Nat} (h : Rw2 R w n ir ip r p) : Rw2 (R ++ g) w n ir ip r p := by
  obtain ⟨⟨ds, h1, h2, h3⟩, h4⟩ := h
  exact ⟨⟨ds, get_pre h1, h2, fun k hk => by
    obtain ⟨c, e1, e2⟩ := h3 k hk
    exact ⟨c, e1, get_pre e2⟩⟩, get_pre h4⟩
end
/-! ### the rows; the law -/
section
variable {k : Nat} {R : Sto} {Q : D → Sto → Prop} {d : DS} {n w : Nat}
/-- rows as they grow: the list of them at A's end -/
def RwG (A G : Sto) (w n : Nat) (ds : List D) (r : Mx) : Prop := ds.length = n ∧ ∀ k, k < n → ∃ c, c ≠ A.length ∧ ds[k]? = some (.ref (c + 2)) ∧ ∀ o, (A ++ [o] ++ G)[c]? = some (.lst (vecD w (r k)))
theorem RwG.snoc {A G : Sto} {ds : List D} {r : Mx} {f : Nat → Rat} (h : RwG A G w n ds r) : RwG A (G ++ [.lst (vecD w f)]) w (n + 1) (ds ++ [.ref ((A ++ [Ob.lst ds] ++ G).length + 2)]) (fun k => if k = n then f else r k) := ⟨by simp [h.1], fun k hk => by
  by_cases e1 : k = n
  · subst e1
    refine ⟨(A ++ [Ob.lst ds] ++ G).length, by simp, by rw [List.getElem?_append_right (by rw [h.1]; omega), h.1]; simp, fun o => ?_⟩
    dsimp only
    rw [if_pos rfl]
    exact new_at o
  · obtain ⟨c', h1, h2, h3⟩ := h.2 k (by omega)
    refine ⟨c', h1, by rw [List.getElem?_append_left (by rw [h.1]; omega)]; exact h2, fun o => ?_⟩
    dsimp only
    rw [if_neg e1, ← List.append_assoc]
    exact get_pre (h3 o)⟩
theorem end_at {A G : Sto} {o p : Ob} : (d.st (A ++ [o] ++ (G ++ [p])))[(A ++ [o] ++ G).length + 2]? = some p := by
  rw [st_get, ← List.append_assoc]
  exact get_end _ _
theorem end_set {A G : Sto} {o p q : Ob} : (d.st (A ++ [o] ++ (G ++ [p]))).set ((A ++ [o] ++ G).length + 2) q = d.st (A ++ [o] ++ (G ++ [q])) := by
  rw [st_set, ← List.append_assoc, set_end, List.append_assoc]
theorem rows_w (hw : w ≤ 6) (hn : n ≤ 4) (hnw : n ≤ w)
    (h : ∀ (r : Mx) (p : Nat → Nat) (ir ip i : Nat) (g : Sto) (d' : DS), Tri w n r p → (∀ k j, k < n → j < w → QB 3 (r k j)) → Rw2 (R ++ g) w n ir ip r p → (R ++ g)[i]? = some (.lst [.ref (ir + 2), .ref (ip + 2)]) → R.length ≤ i → Q (.ref (i + 2)) (d'.st (R ++ g))) : W (orc T (k + 4) 22 [.ref 1, .int (n : Int), .int (w : Int)] (d.st R)) Q := by
  refine orc_w (ρ := [some (.ref 1), some (.int (n : Int)), some (.int (w : Int)), none, none, none, none, none, none]) rfl rfl rfl ?_
  show W (evSs _ b__law_rows _ _) _
  simp only [b__law_rows]
  have rgok : RgOk 0 (w : Int) := by unfold RgOk; omega
  mul_fits
  simp only [st_len, st_app]
  have hrl : (rgD 0 (w : Int)).length = w := by rw [rgD0]; simp
  refine some_w (b := R.length) (row := rgD 0 (w : Int)) (by rw [hrl]; omega) (get_end _ _) fun full g d1 hf => ?_
  obtain ⟨ps, rfl, hps⟩ : ∃ ps : List Nat, full = ps.map natD ∧ ps.Perm (List.range w) := by
    have key : ∀ l : List D, (∀ x ∈ l, x ∈ rgD 0 (w : Int)) → ∃ ps : List Nat, l = ps.map natD := by
      intro l
      induction l with
      | nil => intro _; exact ⟨[], rfl⟩
      | cons x l ih =>
        intro hx
        obtain ⟨ps, rfl⟩ := ih fun y hy => hx y (by simp [hy])
        have := hx x (by simp)
        rw [rgD0] at this
        obtain ⟨q, _, rfl⟩ := List.mem_map.mp this
        exact ⟨q :: ps, rfl⟩
    obtain ⟨ps, rfl⟩ := key full fun x hx => hf.mem_iff.mp hx
    refine ⟨ps, rfl, ?_⟩
    rw [rgD0] at hf
    have h2 := hf.map fun d => match d with | D.int i => i.toNat | _ => 0
    simpa [List.map_map, Function.comp_def] using h2
  have hpl : ps.length = w := by rw [hps.length_eq, List.length_range]
  have hnd : ps.Nodup := hps.nodup_iff.mpr List.nodup_range
  have epl : (ps.map natD).take n = (List.range n).map fun q => natD (ps.getD q 0) := by
    refine List.ext_getElem (by simp [hpl]; omega) fun i h1 h2 => ?_
    have hi : i < n := by simpa using h2
    have : i < ps.length := by omega
    simp [this]
  have hplt : ∀ q, q < n → ps.getD q 0 < w := fun q hq => by
    have e : ps.getD q 0 = ps[q] := by simp [List.getD, hpl, show q < w by omega]
    rw [e]
    exact List.mem_range.mp (hps.mem_iff.mp (List.getElem_mem (by omega)))
  have hpne : ∀ i j, i < n → j < n → i ≠ j → ps.getD i 0 ≠ ps.getD j 0 := fun i j hi hj hij e => by
    have e1 : ps.getD i 0 = ps[i] := by simp [List.getD, hpl, show i < w by omega]
    have e2 : ps.getD j 0 = ps[j] := by simp [List.getD, hpl, show j < w by omega]
    rw [e1, e2] at e
    have f1 := List.Nodup.idxOf_getElem hnd i (by omega)
    have f2 := List.Nodup.idxOf_getElem hnd j (by omega)
    rw [e, f2] at f1
    exact hij f1.symm
  rw [epl]
  generalize hp : (fun q => ps.getD q 0) = p at *
  have hpe : ∀ q, ps.getD q 0 = p q := fun q => by rw [← hp]
  simp only [hpe] at hplt hpne ⊢
  clear epl hnd hpl hps hf hp hpe
  have hpre : ∀ o G, ∃ g', R ++ [Ob.lst (rgD 0 (w : Int))] ++ (g ++ [Ob.lst ((List.range n).map fun q => natD (p q))]) ++ [o] ++ G = R ++ g' := fun o G => ⟨_, by rw [List.append_assoc, List.append_assoc, List.append_assoc]⟩
  have hip : (R ++ [Ob.lst (rgD 0 (w : Int))] ++ (g ++ [Ob.lst ((List.range n).map fun q => natD (p q))]))[(R ++ [Ob.lst (rgD 0 (w : Int))]).length + g.length]? = some (.lst ((List.range n).map fun q => natD (p q))) := by
    rw [← List.append_assoc _ g, show (R ++ [Ob.lst (rgD 0 (w : Int))]).length + g.length = (R ++ [Ob.lst (rgD 0 (w : Int))] ++ g).length by simp; omega]
    exact get_end _ _
  have hRl : R.length ≤ (R ++ [Ob.lst (rgD 0 (w : Int))] ++ (g ++ [Ob.lst ((List.range n).map fun q => natD (p q))])).length := by simp
  generalize (R ++ [Ob.lst (rgD 0 (w : Int))]).length + g.length = ip at hip ⊢
  generalize R ++ [Ob.lst (rgD 0 (w : Int))] ++ (g ++ [Ob.lst ((List.range n).map fun q => natD (p q))]) = A at hip hpre hRl ⊢
  mul_fits
  simp only [st_len, st_app]
  rw [rgD_0]
  refine loopS_w (fun es ρ S' => ∃ (c m : Nat) (ds : List D) (G : Sto) (r : Mx) (o5 o6 o7 : Option D) (d' : DS), c + m = n ∧ es = (List.range' c m).map natD ∧ S' = d'.st (A ++ [.lst ds] ++ G) ∧ ρ = [some (.ref 1), some (.int (n : Int)), some (.int (w : Int)), some (.ref (ip + 2)), some (.ref (A.length + 2)), o5, o6, o7, none] ∧ RwG A G w c ds r ∧ (∀ k j, k < c → j < w → QB 3 (r k j)) ∧ Tri w c r p) ?_ ?_ _ _ _ ⟨0, n, [], [], fun _ _ => 0, _, _, _, d1, by omega, rfl, by simp, rfl, ⟨rfl, fun k hk => absurd hk (by omega)⟩, fun k j hk => absurd hk (by omega), fun k hk => absurd hk (by omega)⟩
  · rintro e es ρ S' ⟨c, m, ds, G, r, o5, o6, o7, d', hcm, hes, rfl, rfl, hG, hQ, hT⟩
    refine ⟨trivial, ?_⟩
    cases m with
    | zero => exact absurd hes (by simp)
    | succ m =>
    rw [rg'_cons, List.map_cons, List.cons.injEq] at hes
    obtain ⟨rfl, rfl⟩ := hes
    simp only [b__law_rows_1]
    mul_fits
    refine ⟨le64 (by show (rgD 0 _).length ≤ 64; simp [rgD]; omega), ?_⟩
    refine drawn_row (fun _ => rfl) (by omega) fun f d2 hf => ?_
    mul_fits
    simp only [st_len, st_app]
    rw [List.append_assoc (A ++ [Ob.lst ds]), rgD_0]
    refine loopS_w (fun es ρ S' => ∃ (j m' : Nat) (f : Nat → Rat) (o7 : Option D), j + m' = c ∧ es = (List.range' j m').map natD ∧ S' = d2.st (A ++ [.lst ds] ++ (G ++ [.lst (vecD w f)])) ∧ ρ = [some (.ref 1), some (.int (n : Int)), some (.int (w : Int)), some (.ref (ip + 2)), some (.ref (A.length + 2)), some (natD c), some (.ref ((A ++ [Ob.lst ds] ++ G).length + 2)), o7, none] ∧ (∀ a, a < w → QB 3 (f a)) ∧ ∀ i, i < j → f (p i) = 0) ?_ ?_ _ _ _ ⟨0, c, f, _, by omega, rfl, rfl, rfl, hf, fun i hi => absurd hi (by omega)⟩
    · rintro e es ρ S' ⟨j, m', f, o7, hjm, hes, rfl, rfl, hf, hz⟩
      refine ⟨trivial, ?_⟩
      cases m' with
      | zero => exact absurd hes (by simp)
      | succ m' =>
      rw [rg'_cons, List.map_cons, List.cons.injEq] at hes
      obtain ⟨rfl, rfl⟩ := hes
      simp only [b__law_rows_2]
      have k1 : (d2.st (A ++ [.lst ds] ++ (G ++ [.lst (vecD w f)])))[ip + 2]? = some (.lst ((List.range n).map fun q => natD (p q))) := by rw [st_get]; exact get_pre (get_pre hip)
      have a1 : atI ((List.range n).map fun q => natD (p q)) (j : Int) = some (natD (p j)) := by
        rw [at_nat _ _ (by simp; omega)]
        simp
      have k2 := end_at (d := d2) (A := A) (G := G) (o := .lst ds) (p := .lst (vecD w f))
      have i1 : ixN (vecD w f).length (p j : Int) = some (p j) := ix_nat (by rw [vec_len]; exact hplt j (by omega))
      mul_fits
      rw [end_set, q0, vec_set]
      refine ⟨_, .inl rfl, j + 1, m', _, _, by omega, rfl, rfl, rfl, fun a ha => ?_, fun i hi => ?_⟩
      · show QB 3 (if a = p j then (0 : Rat) else f a)
        split
        · exact ⟨by decide, by decide⟩
        · exact hf a ha
      · by_cases e : i = j
        · subst e
          exact if_pos rfl
        · show (if p i = p j then (0 : Rat) else f (p i)) = 0
          rw [if_neg (hpne i j (by omega) (by omega) e)]
          exact hz i (by omega)
    · rintro ρ S' ⟨j, m', f, o7, hjm, hes, rfl, rfl, hf, hz⟩
      refine ⟨trivial, ?_⟩
      cases m' with
      | succ m' => exact absurd hes (by simp [rg'_cons])
      | zero =>
      have hjc : j = c := by omega
      subst hjc
      mul_fits
      simp only [b__law_rows_3]
      mul_fits
      refine draw_ (by decide) (by decide) fun y d3 y0 y1 => ?_
      mul_fits
      refine draw_ (by decide) (by decide) fun z d4 z0 z1 => ?_
      mul_fits
      refine lfrac_w (by omega) (bd_mono (m := 3) (by omega) (by decide)) (bd_mono (m := 3) (by omega) (by decide)) ?_
      have hq3 : QB 3 (Rat.divInt (1 + y) (1 + z)) := divInt_bd (by omega) (by omega) (by omega)
      have hq0 : Rat.divInt (1 + y) (1 + z) ≠ 0 := fun e => by
        have e1 : Rat.divInt (1 + y) (1 + z) = Rat.divInt 0 1 := by rw [e]; rfl
        have := (Rat.divInt_eq_divInt_iff (show (1 + z) ≠ 0 by omega) (by decide)).mp e1
        omega
      generalize Rat.divInt (1 + y) (1 + z) = q at hq3 hq0 ⊢
      have k1 : (d4.st (A ++ [.lst ds] ++ (G ++ [.lst (vecD w f)])))[ip + 2]? = some (.lst ((List.range n).map fun q => natD (p q))) := by rw [st_get]; exact get_pre (get_pre hip)
      have a1 : atI ((List.range n).map fun q => natD (p q)) (j : Int) = some (natD (p j)) := by
        rw [at_nat _ _ (by simp; omega)]
        simp
      have k2 := end_at (d := d4) (A := A) (G := G) (o := .lst ds) (p := .lst (vecD w f))
      have i1 : ixN (vecD w f).length (p j : Int) = some (p j) := ix_nat (by rw [vec_len]; exact hplt j (by omega))
      mul_fits
      rw [end_set, vec_set]
      have hS := hG.snoc (f := fun a => if a = p j then q else f a)
      generalize (A ++ [Ob.lst ds] ++ G).length = nw at hS ⊢
      generalize G ++ [Ob.lst (vecD w fun a => if a = p j then q else f a)] = G2 at hS ⊢
      have k3 : (d4.st (A ++ [.lst ds] ++ G2))[A.length + 2]? = some (.lst ds) := st_mid
      mul_fits
      refine v_app k3 (by rw [hG.1]; exact le_size (by omega)) ?_
      rw [st_set_mid]
      mul_fits
      refine ⟨_, .inl rfl, j + 1, m, ds ++ [.ref (nw + 2)], G2, _, _, _, _, d4, by omega, rfl, rfl, rfl, hS, fun k a hk ha => ?_, fun k hk => ?_⟩
      · by_cases e : k = j
        · subst e
          rw [if_pos rfl]
          split
          · exact hq3
          · exact hf a ha
        · rw [if_neg e]
          exact hQ k a (by omega) ha
      · by_cases e : k = j
        · subst e
          refine ⟨hplt k (by omega), ?_, fun i hi => ?_⟩
          · show (if k = k then (fun a => if a = p k then q else f a) else r k) (p k) ≠ 0
            rw [if_pos rfl]
            simp only [if_true]
            exact hq0
          · show (if k = k then (fun a => if a = p k then q else f a) else r k) (p i) = 0
            rw [if_pos rfl]
            show (if p i = p k then q else f (p i)) = 0
            rw [if_neg (hpne i k (by omega) (by omega) (by omega))]
            exact hz i hi
        · obtain ⟨t1, t2, t3⟩ := hT k (by omega)
          refine ⟨t1, ?_, fun i hi => ?_⟩
          · show (if k = j then (fun a => if a = p j then q else f a) else r k) (p k) ≠ 0
            rw [if_neg e]
            exact t2
          · show (if k = j then (fun a => if a = p j then q else f a) else r k) (p i) = 0
            rw [if_neg e]
            exact t3 i hi
  · rintro ρ S' ⟨c, m, ds, G, r, o5, o6, o7, d', hcm, hes, rfl, rfl, hG, hQ, hT⟩
    refine ⟨trivial, ?_⟩
    cases m with
    | succ m => exact absurd hes (by simp [rg'_cons])
    | zero =>
    have hcn : c = n := by omega
    subst hcn
    mul_fits
    simp only [b__law_rows_4]
    mul_fits
    simp only [st_len, st_app]
    rw [gc_out (by simp [below, st_len]; omega)]
    refine w_ok ?_
    have hR2 : Rw2 (A ++ [.lst ds] ++ G ++ [Ob.lst [.ref (A.length + 2), .ref (ip + 2)]]) w c A.length ip r p := ⟨⟨ds, get_pre (get_mid A G _), hG.1, fun k hk => by
      obtain ⟨c', e1, e2, e3⟩ := hG.2 k hk
      exact ⟨c', e2, get_pre (e3 _)⟩⟩, get_pre (get_pre (get_pre hip))⟩
    have hi := get_end (A ++ [.lst ds] ++ G) (Ob.lst [.ref (A.length + 2), .ref (ip + 2)])
    obtain ⟨g', eg⟩ := hpre (.lst ds) (G ++ [Ob.lst [.ref (A.length + 2), .ref (ip + 2)]])
    have hii : R.length ≤ (A ++ [Ob.lst ds] ++ G).length := by simp; omega
    generalize (A ++ [Ob.lst ds] ++ G).length = i at hi hii ⊢
    rw [List.append_assoc (A ++ [Ob.lst ds]), eg] at hR2 hi ⊢
    exact h r p _ _ i g' d' hT hQ hR2 hi hii
end
/-! ### the law -/
theorem toPs_vec (f : Nat → Option PyData) (g : Nat → Rat) (l : List Nat) : toPsW f (l.map fun j => qD (g j)) = some (l.map fun j => .tuple [.int (g j).num, .int ((g j).den : Int)]) := by
  induction l with
  | nil => rfl
  | cons x l ih =>
    rw [List.map_cons, toPsW, qP_ok, ih]
    rfl
theorem lay_vec (g : Nat → Rat) (l : List Nat) : PyData.canLayAll0 (l.map fun j => .tuple [.int (g j).num, .int ((g j).den : Int)]) = true ∧ PyData.depthAll (l.map fun j => .tuple [.int (g j).num, .int ((g j).den : Int)]) ≤ 1 := by
  induction l with
  | nil => simp [PyData.canLayAll0, PyData.depthAll]
  | cons x l ih => simp [PyData.canLayAll0, PyData.depthAll, PyData.canLay0, PyData.depth, ih.1, ih.2]
theorem eq_vec {S : Sto} {n : Nat} {g : Nat → Rat} : dEq S (.tup (vecD n g)) (.tup (vecD n g)) = some true := by
  have e : toP S (.tup (vecD n g)) = some (.tuple ((List.range n).map fun j => .tuple [.int (g j).num, .int ((g j).den : Int)])) := by
    show (toPsW _ _).map PyData.tuple = _
    unfold vecD
    rw [toPs_vec]
    rfl
  have sc : scalD (.tup (vecD n g)) (.tup (vecD n g)) = false := rfl
  unfold dEq
  rw [sc, e]
  obtain ⟨h1, h2⟩ := lay_vec g (List.range n)
  have hs : SeqAt.shaped (.tuple ((List.range n).map fun j => .tuple [.int (g j).num, .int ((g j).den : Int)])) = true := by
    simp only [SeqAt.shaped, PyData.canLay0, PyData.depth, h1, Bool.true_and]
    exact decide_eq_true (by omega)
  have hr := SeqAt.eqv_refl (.tuple ((List.range n).map fun j => .tuple [.int (g j).num, .int ((g j).den : Int)])) (SeqAt.canLay_of_shaped hs)
  simp only [hs, hr, Bool.and_self, if_true, Bool.false_eq_true, if_false]
section
variable {R : Sto} {d : DS} {n w ir ip i5 : Nat} {r : Mx} {p : Nat → Nat} {b : Nat → Rat} {sc : List D}
theorem ord_of {got : List D} (hg : got.Perm (rgD 0 (n : Int))) : ∃ o : List Nat, got = (List.range n).map (fun i => natD (o.getD i 0)) ∧ o.Perm (List.range n) := by
  have key : ∀ l : List D, (∀ x ∈ l, x ∈ rgD 0 (n : Int)) → ∃ ps : List Nat, l = ps.map natD := by
    intro l
    induction l with
    | nil => intro _; exact ⟨[], rfl⟩
    | cons x l ih =>
      intro hx
      obtain ⟨ps, rfl⟩ := ih fun y hy => hx y (by simp [hy])
      have := hx x (by simp)
      rw [rgD0] at this
      obtain ⟨q, _, rfl⟩ := List.mem_map.mp this
      exact ⟨q :: ps, rfl⟩
  obtain ⟨o, rfl⟩ := key got fun x hx => hg.mem_iff.mp hx
  rw [rgD0] at hg
  have h2 := hg.map fun d => match d with | D.int i => i.toNat | _ => 0
  have ho : o.Perm (List.range n) := by simpa [List.map_map, Function.comp_def] using h2
  have hl : o.length = n := by rw [ho.length_eq, List.length_range]
  refine ⟨o, List.ext_getElem (by simp [hl]) fun i h1 h2 => ?_, ho⟩
  have : i < o.length := by simpa using h1
  simp [this]
theorem Rw2.get {R : Sto} (h : Rw2 R w n ir ip r p) (d : DS) : ∃ ds, (d.st R)[ir + 2]? = some (.lst ds) ∧ Rws (d.st R) n w ds r := by
  obtain ⟨⟨ds, h1, h2, h3⟩, _⟩ := h
  exact ⟨ds, h1, h2, fun k hk => by
    obtain ⟨c, e1, e2⟩ := h3 k hk
    exact ⟨c + 2, e1, e2⟩⟩
/-- from the drawn order on -/
theorem tail4 {o6 o7 o8 o9 : Option D} {due : D} {idx : Nat} (hw : w ≤ 6) (hn : n ≤ 4) (hnw : n ≤ w) (ht : Tri w n r p) (hq : ∀ k j, k < n → j < w → QB 3 (r k j)) (hb : ∀ j, j < w → QB 31 (b j)) (h2 : Rw2 R w n ir ip r p) (h5 : R[i5]? = some (.lst (vecD w b)))
    (hd : ((∀ a, a < w → leftF r p b n a = 0) ∧ due = .ref (idx + 2) ∧ R[idx]? = some (.lst (vecD n (fF r p b)))) ∨ (¬(∀ a, a < w → leftF r p b n a = 0) ∧ due = .non)) :
    W (evSs (orc T 20) (.cons (.set (.nm 11) (.call 11 (.cons (.var 1) (.cons (.alloc (.listRg (.lit (.int 0)) (.agg .len (.e (.var 3))))) .nil)))) (.cons (.set (.nm 12) (.call 8 (.cons (.agg .tuple (.q (.comp [ 13 ] (.nm 13) (.r (.e (.var 11))) (.agg .tuple (.e (.idx (.var 3) (.var 13))))))) (.cons (.agg .tuple (.e (.var 5))) .nil)))) (.cons (.ite (.or (.v (.isN (.var 10))) (.v (.isN (.var 12)))) (.cons (.ret (.and (.isN (.var 10)) (.isN (.var 12)))) .nil) .nil) b_law_4)))
      [some (.fix sc), some (.ref 1), some (natD w), some (.ref (ir + 2)), some (.ref (ip + 2)), some (.ref (i5 + 2)), o6, o7, o8, o9, some due, none, none, none, none] (d.st R)) Good1 := by
  obtain ⟨ds0, e1, e2⟩ := h2.get d
  have sq : sqOf (d.st R) (.val (.ref (ir + 2))) = some ds0 := by simp only [sqOf, lsOf, e1]
  have hl0 := e2.1
  have rgok : RgOk 0 (n : Int) := by unfold RgOk; omega
  mul_fits
  rw [hl0]
  mul_fits
  simp only [st_len, st_app]
  have hrl : (rgD 0 (n : Int)).length = n := by rw [rgD0]; simp
  refine shuffled_w (b := R.length) (row := rgD 0 (n : Int)) (by rw [hrl]; omega) (get_end _ _) fun got g d2 hg => ?_
  obtain ⟨o, rfl, ho⟩ := ord_of hg
  have hl : o.length = n := by rw [ho.length_eq, List.length_range]
  have hot : ∀ j, j < n → o.getD j 0 < n := fun j hj => by
    have e : o.getD j 0 = o[j] := by simp [List.getD, hl, hj]
    rw [e]
    exact List.mem_range.mp (ho.mem_iff.mp (List.getElem_mem (by omega)))
  have g11 : (d2.st (R ++ [Ob.lst (rgD 0 (n : Int))] ++ (g ++ [Ob.lst ((List.range n).map fun i => natD (o.getD i 0))])))[(R ++ [Ob.lst (rgD 0 (n : Int))]).length + g.length + 2]? = some (.lst ((List.range n).map fun i => natD (o.getD i 0))) := by
    rw [st_get, ← List.append_assoc _ g, show (R ++ [Ob.lst (rgD 0 (n : Int))]).length + g.length = (R ++ [Ob.lst (rgD 0 (n : Int))] ++ g).length by simp; omega]
    exact get_end _ _
  have h2' := h2.pre (g := [Ob.lst (rgD 0 (n : Int))] ++ (g ++ [Ob.lst ((List.range n).map fun i => natD (o.getD i 0))]))
  have h5' := get_pre (R := [Ob.lst (rgD 0 (n : Int))] ++ (g ++ [Ob.lst ((List.range n).map fun i => natD (o.getD i 0))])) h5
  have hd' : ((∀ a, a < w → leftF r p b n a = 0) ∧ due = .ref (idx + 2) ∧ (R ++ ([Ob.lst (rgD 0 (n : Int))] ++ (g ++ [Ob.lst ((List.range n).map fun i => natD (o.getD i 0))])))[idx]? = some (.lst (vecD n (fF r p b)))) ∨ (¬(∀ a, a < w → leftF r p b n a = 0) ∧ due = .non) := hd.imp (fun ⟨a, b, c⟩ => ⟨a, b, get_pre c⟩) id
  rw [List.append_assoc R] at g11 ⊢
  generalize (R ++ [Ob.lst (rgD 0 (n : Int))]).length + g.length + 2 = i11 at g11 ⊢
  generalize R ++ ([Ob.lst (rgD 0 (n : Int))] ++ (g ++ [Ob.lst ((List.range n).map fun i => natD (o.getD i 0))])) = R2 at g11 h2' h5' hd' ⊢
  clear hd h5 e1 e2 sq hl0 h2
  obtain ⟨ds, e1, e2⟩ := h2'.get d2
  have it : itOf (.val (.ref i11)) (d2.st R2) = some ⟨(List.range n).map fun i => natD (o.getD i 0), some i11⟩ := by simp only [itOf, sqOf, lsOf, g11]; rfl
  have h5s := get_pre (S := d2.st R2) (R := []) (show (d2.st R2)[i5 + 2]? = some (.lst (vecD w b)) from h5')
  rw [List.append_nil] at h5s
  have sq5 : sqOf (d2.st R2) (.val (.ref (i5 + 2))) = some (vecD w b) := by simp only [sqOf, lsOf, h5s]
  mul_fits
  refine w_may it ?_
  mul_fits
  refine ⟨le64 (by show ((List.range n).map _).length ≤ 64; simp; omega), ?_⟩
  refine comp_gen (F := fun i => .tup (vecD w (r (o.getD i 0)))) g11 (fun j Q' hj hqq => ?_) ?_
  · obtain ⟨c, f1, f2⟩ := e2.2 _ (hot j hj)
    have a1 := at_ds f1
    have sqc : sqOf (d2.st R2) (.val (.ref c)) = some (vecD w (r (o.getD j 0))) := by simp only [sqOf, lsOf, f2]
    mul_fits
    exact hqq
  · mul_fits
    refine combination_w hw hn hnw ht ho hq hb fun M hM hU hBd => ?_
    refine ⟨fun hz => ?_, fun hnz => ?_⟩
    · rcases hd' with ⟨h0, rfl, hidx⟩ | ⟨h0, rfl⟩
      · have hs := sys_some ho hM hU h0
        have ev : vecD n (fun q => M q n) = vecD n fun q => fF r p b (o.getD q 0) := vec_congr fun j hj => by
          rw [hs j (by omega), if_pos hj]
        rw [ev]
        mul_fits
        simp only [b_law_4]
        have hidx' : (d2.st R2)[idx + 2]? = some (.lst (vecD n (fF r p b))) := hidx
        mul_fits
        refine w_may it ?_
        mul_fits
        refine ⟨le64 (by show ((List.range n).map _).length ≤ 64; simp; omega), ?_⟩
        refine comp_gen (F := fun i => qD (fF r p b (o.getD i 0))) g11 (fun j Q' hj hqq => ?_) ?_
        · have a1 := at_vec (r := fF r p b) (hot j hj)
          mul_fits
          exact hqq
        · mul_fits
          have ec : cmpD .eq (.tup (vecD n fun q => fF r p b (o.getD q 0))) (.tup ((List.range n).map fun i => qD (fF r p b (o.getD i 0)))) (d2.st R2) = .ok (.bl true) (d2.st R2) := by
            have := eq_vec (S := d2.st R2) (n := n) (g := fun q => fF r p b (o.getD q 0))
            unfold vecD at this ⊢
            simp only [cmpD, this, may_some]
          rw [ec]
          mul_fits
          refine ⟨le64 (by show (vecD n _).length ≤ 64; rw [vec_len]; omega), ?_⟩
          refine comp_gen (F := fun _ => .bl true) trivial (fun j Q' hj hqq => ?_) ?_
          · mul_fits
            refine is_frac_w (m := 1301) ?_ (by decide) hqq
            show QB 1301 (fF r p b (o.getD j 0))
            rw [← show M j n = fF r p b (o.getD j 0) by rw [hs j (by omega), if_pos hj]]
            exact (hBd j (by omega)).2.mono (bb_le4 hn)
          · mul_fits
            refine v_all rfl (bools_dec _ fun _ => true) ?_
            mul_fits
            have : ((List.range n).map fun _ => true).all id = true := by simp
            rw [this]
            exact good1
      · exact absurd (sys_none ht ho hM hU hz) h0
    · rcases hd' with ⟨h0, rfl, hidx⟩ | ⟨h0, rfl⟩
      · obtain ⟨q, q1, q2, q3⟩ := hnz
        have hs := sys_some ho hM hU h0
        exact absurd (by rw [hs q q2, if_neg (by omega)]) q3
      · mul_fits
        exact good1
theorem tail3 {o6 o7 o8 o9 : Option D} (hw : w ≤ 6) (hn : n ≤ 4) (hnw : n ≤ w) (ht : Tri w n r p) (hq : ∀ k j, k < n → j < w → QB 3 (r k j)) (hb : ∀ j, j < w → QB 31 (b j)) (h2 : Rw2 R w n ir ip r p) (h5 : R[i5]? = some (.lst (vecD w b))) :
    W (evSs (orc T 20) b_law_3 [some (.fix sc), some (.ref 1), some (natD w), some (.ref (ir + 2)), some (.ref (ip + 2)), some (.ref (i5 + 2)), o6, o7, o8, o9, none, none, none, none, none] (d.st R)) Good1 := by
  simp only [b_law_3]
  obtain ⟨ds, e1, e2⟩ := h2.get d
  refine w_scons (w_set ?_)
  mul_fits
  refine lcleared_w hw hn ht hq hb e1 e2 (show (d.st R)[ip + 2]? = _ from h2.2) (show (d.st R)[i5 + 2]? = _ from h5) (fun h0 idx g hi hg => ?_) fun h0 => ?_
  · obtain ⟨i, rfl⟩ : ∃ i, idx = i + 2 := ⟨idx - 2, by rw [st_len] at hi; omega⟩
    rw [st_app] at hg ⊢
    exact w_nx (tail4 hw hn hnw ht hq hb h2.pre (get_pre h5) (.inl ⟨h0, rfl, hg⟩))
  · exact w_nx (tail4 (idx := 0) hw hn hnw ht hq hb h2 h5 (.inr ⟨h0, rfl⟩))
theorem law_w {sc : List Int} (hs : sc.length ≤ 63) : W (orc T (20 + 1) 24 [.fix (sc.map .int)] []) fun d _ => d = .bl true := by
  refine orc_w (ρ := [some (.fix (sc.map .int)), none, none, none, none, none, none, none, none, none, none, none, none, none, none]) rfl rfl rfl ?_
  show W (evSs _ b_law _ _) Good1
  simp only [b_law]
  mul_fits
  refine begin_w rfl hs ?_
  mul_fits
  refine draw_ (by decide) (by decide) fun y d1 y0 y1 => ?_
  obtain ⟨w, hwe⟩ : ∃ w : Nat, 1 + y = (w : Int) := ⟨(1 + y).toNat, by omega⟩
  have hw1 : 1 ≤ w := by omega
  have hw6 : w ≤ 6 := by omega
  mul_fits
  rw [hwe]
  mul_fits
  refine draw_ (by split <;> omega) (by split <;> omega) fun n d2 n0 n1 => ?_
  obtain ⟨n, rfl⟩ := Int.eq_ofNat_of_zero_le n0
  have hn4 : n ≤ 4 := by split at n1 <;> omega
  have hnw : n ≤ w := by split at n1 <;> omega
  mul_fits
  refine rows_w hw6 hn4 hnw fun r p ir ip i g d3 ht hq h2 hi _ => ?_
  have bn : ∀ (ρ : En), bindN (.tup [3, 4]) (.ref (i + 2)) ρ (d3.st ([] ++ g)) = some ((ρ.set 3 (some (.ref (ir + 2)))).set 4 (some (.ref (ip + 2)))) := fun ρ => by
    have : (d3.st ([] ++ g))[i + 2]? = some (.lst [.ref (ir + 2), .ref (ip + 2)]) := hi
    simp only [bindN, sqOf, lsOf, this]
    rfl
  refine w_may (bn _) ?_
  generalize ([] ++ g : Sto) = R at h2 ⊢
  mul_fits
  refine ⟨le64 (by show (rgD 0 _).length ≤ 64; simp [rgD]; omega), ?_⟩
  refine comp_vec (fun j Q' hj hqq => ?_) ?_ (f := fun _ => 0)
  · mul_fits
    exact hqq
  mul_fits
  simp only [st_len, st_app]
  mul_fits
  refine draw_ (by decide) (by decide) fun way d4 _ _ => ?_
  mul_fits
  have h2z := h2.pre (g := [Ob.lst (vecD w fun _ => 0)])
  have h5z := get_end R (Ob.lst (vecD w fun _ => 0))
  refine w_ifd (fun c => ?_) fun c => ?_
  · mul_fits
    refine ⟨le64 (by show (rgD 0 _).length ≤ 64; simp [rgD]; omega), ?_⟩
    refine drawn_row (fun _ => rfl) (by omega) fun f d5 hf => ?_
    mul_fits
    simp only [st_len, st_app]
    exact tail3 hw6 hn4 hnw ht hq (fun j hj => (hf j hj).mono (by decide)) h2z.pre (get_end _ _)
  · obtain ⟨ds, e1, e2⟩ := h2.get d4
    obtain ⟨⟨ds', f1, f2, f3⟩, _⟩ := h2
    have hds : ds = ds' := by
      have : (d4.st R)[ir + 2]? = some (.lst ds') := f1
      rw [this, Option.some.injEq, Ob.lst.injEq] at e1
      exact e1.symm
    subst hds
    have gir : ∀ (d : DS) G, (d.st (R ++ G))[ir + 2]? = some (.lst ds) := fun d G => get_pre (S := R) f1
    have it : itOf (.val (.ref (ir + 2))) (d4.st (R ++ [Ob.lst (vecD w fun _ => 0)])) = some ⟨ds, some (ir + 2)⟩ := by simp only [itOf, sqOf, lsOf, gir]; rfl
    mul_fits
    refine w_may it ?_
    mul_fits
    refine loopS_w (fun es ρ S' => ∃ (c m i5 : Nat) (G : Sto) (f : Nat → Rat) (o7 o8 : Option D) (d' : DS), c + m = n ∧ es = ds.drop c ∧ S' = d'.st (R ++ G) ∧ ρ = [some (.fix (sc.map .int)), some (.ref 1), some (natD w), some (.ref (ir + 2)), some (.ref (ip + 2)), some (.ref (i5 + 2)), some (.int way), o7, o8, none, none, none, none, none, none] ∧ R.length ≤ i5 ∧ (R ++ G)[i5]? = some (.lst (vecD w f)) ∧ ∀ a, a < w → QB (1 + 7 * c) (f a)) ?_ ?_ _ _ _ ⟨0, n, R.length, [Ob.lst (vecD w fun _ => 0)], fun _ => 0, _, _, d4, by omega, rfl, rfl, rfl, Nat.le_refl _, h5z, fun a _ => (⟨by decide, by decide⟩ : QB 1 0)⟩
    · rintro e es ρ S' ⟨c, m, i5, G, f, o7, o8, d', hcm, hes, rfl, rfl, hi5, hf, hB⟩
      refine ⟨gir _ _, ?_⟩
      have hcl : c < ds.length := by
        have := congrArg List.length hes
        simp at this
        omega
      rw [List.drop_eq_getElem_cons hcl, List.cons.injEq] at hes
      obtain ⟨rfl, rfl⟩ := hes
      obtain ⟨cc, g1, g2⟩ := f3 c (by omega)
      rw [List.getElem?_eq_getElem hcl, Option.some.injEq] at g1
      rw [g1]
      simp only [b_law_1]
      mul_fits
      refine some_frac_w fun q d5 hq3 => ?_
      mul_fits
      refine ⟨le64 (by show (rgD 0 _).length ≤ 64; simp [rgD]; omega), ?_⟩
      have k1 : (d5.st (R ++ G))[i5 + 2]? = some (.lst (vecD w f)) := hf
      have k2 : (d5.st (R ++ G))[cc + 2]? = some (.lst (vecD w (r c))) := get_pre (S := R) g2
      refine comp_vec (fun j Q' hj hqq => ?_) ?_ (f := fun j => f j + q * r c j)
      · have a1 := at_vec (r := f) hj
        have a2 := at_vec (r := r c) hj
        mul_fits
        refine ltimes_w hq3 (hq c j (by omega) hj) (by decide) ?_
        mul_fits
        exact lplus_w (hB j hj) (hq3.mul (hq c j (by omega) hj)) (by omega) hqq
      · mul_fits
        simp only [st_len, st_app]
        rw [List.append_assoc R]
        refine ⟨_, .inl rfl, c + 1, m - 1, (R ++ G).length, G ++ [Ob.lst (vecD w fun j => f j + q * r c j)], fun j => f j + q * r c j, _, _, d5, by omega, rfl, rfl, rfl, by simp, ?_, fun a ha => ?_⟩
        · rw [← List.append_assoc]
          exact get_end _ _
        · exact ((hB a ha).add (hq3.mul (hq c a (by omega) ha))).mono (by omega)
    · rintro ρ S' ⟨c, m, i5, G, f, o7, o8, d', hcm, hes, rfl, rfl, hi5, hf, hB⟩
      refine ⟨gir _ _, ?_⟩
      have hcn : c ≤ 4 := by omega
      have h2r : Rw2 R w n ir ip r p := ⟨⟨ds, f1, f2, f3⟩, ‹_›⟩
      mul_fits
      simp only [b_law_2]
      mul_fits
      refine w_ifd (fun c1 => ?_) fun c1 => ?_
      · mul_fits
        refine draw_ (by omega) (by omega) fun a d5 a0 a1 => ?_
        obtain ⟨a, rfl⟩ := Int.eq_ofNat_of_zero_le a0
        have haw : a < w := by omega
        have k1 : (d5.st (R ++ G))[i5 + 2]? = some (.lst (vecD w f)) := hf
        have a1 := at_vec (r := f) haw
        mul_fits
        rw [q1]
        refine lplus_w (n := 1) (hB a haw) ⟨by decide, by decide⟩ (by omega) ?_
        have i1 : ixN (vecD w f).length (a : Int) = some a := ix_nat (by rw [vec_len]; exact haw)
        mul_fits
        rw [st_set, vec_set, List.set_append_right _ _ hi5]
        have hl := (List.getElem?_eq_some_iff.mp hf).1
        refine tail3 hw6 hn4 hnw ht hq (b := fun j => if j = a then f a + 1 else f j) (fun j hj => ?_) h2r.pre ?_
        · show QB 31 (if j = a then f a + 1 else f j)
          split
          · exact ((hB a haw).add (n := 1) ⟨by decide, by decide⟩).mono (by omega)
          · exact (hB j hj).mono (by omega)
        · rw [List.getElem?_append_right hi5, List.getElem?_set_self (by rw [List.length_append] at hl; omega)]
      · mul_fits
        exact tail3 hw6 hn4 hnw ht hq (fun j hj => (hB j hj).mono (by omega)) h2r.pre hf
end
theorem law_true : ∀ ns : List Int, ns.length ≤ 63 → ∃ S, orc T (20 + 1) 24 [.fix (ns.map .int)] [] = .ok (.bl true) S := fun ns h => by
  obtain ⟨a, S, e, q⟩ := law_w h
  subst q
  exact ⟨S, e⟩
end K63
end
open PySem PySem.W PySem.Calls PyProof.Rows
set_option maxHeartbeats 0 in
theorem PySem.Challenge.cw_everygrown_k63_combinations_holds : PySem.Challenge.rw_everygrown_k63_combinations.Holds := by
  w_on; o_law
  refine HandSHeadRun.head_imp (r := OpenLaw.row PySem.Challenge.rw_everygrown_k63_combinations) (q := view (OpenLaw.row PySem.Challenge.rw_everygrown_k63_combinations).prog [0, 29]) (H := K63.hk) (ob := K63.ob) (M := 1500) (loose := K63.loose) (d := HandSHeadRun.topDef (OpenLaw.row PySem.Challenge.rw_everygrown_k63_combinations).prog 29) (kwd := []) K63.ob_eq
     K63.run (by kernel_rfl) (by kernel_rfl) (by kernel_rfl) (by rfl) (by first | assumption | decide +kernel) (by decide +kernel) ⟨rfl, rfl, rfl, rfl, rfl, by decide +kernel⟩ ?hw ?hc
  case hw => w_witness2
  case hc =>
    refine L2.walk_ofE (l := PySem.Challenge.rw_everygrown_k63_combinations) (n := 63) (k := 21) (x := "script") (CX := L2.CX0) rfl (by decide) (by kernel_rfl) ⟨rfl, by decide, by decide⟩ ?F (fun _ _ _ _ z => z)
    intro w mg fa h Y G hmg0
    obtain ⟨K, KX, c, cg⟩ := Y
    have hmg : mg ("law" : PySem.Str) = some (.ref fa) := by
      have e : (HandSHeadRun.topDef (OpenLaw.row PySem.Challenge.rw_everygrown_k63_combinations).prog 29).name = ("law" : PySem.Str) := by kernel_rfl
      rw [← e]
      exact hmg0
    exact PQ.law_end (names := K63.names) (T := K63.T) (B := K63.B) (Gs := K63.Gs) (i := 24) (k := 20) KX rfl (K63.frees KX G c) (PQ.gB_ok KX G cg) (K63.defs KX G c) rfl rfl rfl hmg (by decide) (by decide) K63.law_true
