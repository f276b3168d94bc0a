import PyProof.Rows.All
import Wide.All
import OpenK.AllK
import Wide.FinOn
import HandS.ForMost
import HandS.ForExc
import HandS.HeadHook1
import HandS.Wide
import HandS.IsInst
import HandS.TupAny
import HandS.ClsMeth
import HandS.CallSlots
import HandS.Defaults
import HandS.HeadHook2
import HandS.MakeKwOnly
import HandS.HotCalls
import KE.KExcInit
import HandS.ExcInit
import HandS.ExcValue
import HandS.ExcField
import HandS.TryMany
import HandS.OwnEq
import HandS.NamedTupSort
import PyProof.InstNe
import HandS.Head0
import HandS.Head1
import HandS.Head2
import HandS.HeadEnd
import KE.KStateDown
import PySem.Challenge.RW_spanloops_k87_days_made
set_option Elab.async false
set_option linter.all false
set_option maxRecDepth 100000
namespace FL
open PySem
open PySem.Spec
open L2
/-- immutable data -/
inductive D where
  | non | bl (b : Bool) | int (i : Int) | str (x : Str) | ty (n : String)
  | tup (xs : List D) | lst (xs : List D) | ins (C : String) (ks : List String) (fs : List D) | cls (C : String)
/-- a class's address, names as the model has them -/
def cad (K : PySem.W.Frag) (C : String) : Addr := He.ga K (Str.ofString C)
def nms (ks : List String) : List Str := ks.map Str.ofString
mutual
def R (K : PySem.W.Frag) (I : Hp) : D → V → Prop
  | .non, v => v = .non
  | .bl b, v => v = .bl b
  | .int i, v => v = .int i
  | .str x, v => v = .str x
  | .ty n, v => v = .ty n
  | .cls C, v => v = .ref (cad K C)
  | .tup xs, v => ∃ a vs, v = .ref a ∧ SqT K I a vs ∧ Rs K I xs vs
  | .lst xs, v => ∃ a vs, v = .ref a ∧ SqL K I a vs ∧ Rs K I xs vs
  | .ins C ks fs, v => ∃ a dx vs, v = .ref a ∧ I a = some (.ins (cad K C) dx ((nms ks).zip vs)) ∧ ks.length = vs.length ∧ Rs K I fs vs
def Rs (K : PySem.W.Frag) (I : Hp) : List D → List V → Prop
  | [], vs => vs = []
  | x :: xs, vs => ∃ v r, vs = v :: r ∧ R K I x v ∧ Rs K I xs r
end
/-- one heap lies within another -/
def Le (I J : Hp) : Prop := ∀ a o, I a = some o → J a = some o
theorem Le.refl (I : Hp) : Le I I := fun _ _ h => h
theorem Le.trans {I J L : Hp} (a : Le I J) (b : Le J L) : Le I L := fun x o h => b x o (a x o h)
theorem Le.rd {I J : Hp} (l : Le I J) {a : Addr} {u : HO} (h : Rd I a u) : Rd J a u := by
  rcases h with h | ⟨o, h⟩
  · exact .inl (l _ _ h)
  · exact .inr ⟨o, l _ _ h⟩
theorem Le.sqT {K : PySem.W.Frag} {I J : Hp} (l : Le I J) {a : Addr} {xs : List V} (h : SqT K I a xs) : SqT K J a xs := by
  rcases h with h | h
  · exact .inl (l.rd h)
  · exact .inr h
theorem Le.sqL {K : PySem.W.Frag} {I J : Hp} (l : Le I J) {a : Addr} {xs : List V} (h : SqL K I a xs) : SqL K J a xs := by
  rcases h with h | h
  · exact .inl (l.rd h)
  · exact .inr h
mutual
theorem R.mono {K : PySem.W.Frag} {I J : Hp} (l : Le I J) : ∀ (d : D) (v : V), R K I d v → R K J d v
  | .non, _, h => by unfold R at h ⊢; exact h
  | .bl _, _, h => by unfold R at h ⊢; exact h
  | .int _, _, h => by unfold R at h ⊢; exact h
  | .str _, _, h => by unfold R at h ⊢; exact h
  | .ty _, _, h => by unfold R at h ⊢; exact h
  | .cls _, _, h => by unfold R at h ⊢; exact h
  | .tup xs, v, h => by
    unfold R at h ⊢
    obtain ⟨a, vs, e, s, r⟩ := h
    exact ⟨a, vs, e, l.sqT s, Rs.mono l xs vs r⟩
  | .lst xs, v, h => by
    unfold R at h ⊢
    obtain ⟨a, vs, e, s, r⟩ := h
    exact ⟨a, vs, e, l.sqL s, Rs.mono l xs vs r⟩
  | .ins C ks fs, v, h => by
    unfold R at h ⊢
    obtain ⟨a, dx, vs, e, s, n, r⟩ := h
    exact ⟨a, dx, vs, e, l _ _ s, n, Rs.mono l fs vs r⟩
theorem Rs.mono {K : PySem.W.Frag} {I J : Hp} (l : Le I J) : ∀ (ds : List D) (vs : List V), Rs K I ds vs → Rs K J ds vs
  | [], _, h => by unfold Rs at h ⊢; exact h
  | x :: xs, vs, h => by
    unfold Rs at h ⊢
    obtain ⟨v, r, e, h1, h2⟩ := h
    exact ⟨v, r, e, R.mono l x v h1, Rs.mono l xs r h2⟩
end
theorem R_int {K : PySem.W.Frag} {I : Hp} {i : Int} {v : V} : R K I (.int i) v ↔ v = .int i := by unfold R; exact Iff.rfl
theorem R_bl {K : PySem.W.Frag} {I : Hp} {i : Bool} {v : V} : R K I (.bl i) v ↔ v = .bl i := by unfold R; exact Iff.rfl
theorem R_str {K : PySem.W.Frag} {I : Hp} {i : Str} {v : V} : R K I (.str i) v ↔ v = .str i := by unfold R; exact Iff.rfl
theorem R_non {K : PySem.W.Frag} {I : Hp} {v : V} : R K I .non v ↔ v = .non := by unfold R; exact Iff.rfl
theorem R_ty {K : PySem.W.Frag} {I : Hp} {n : String} {v : V} : R K I (.ty n) v ↔ v = .ty n := by unfold R; exact Iff.rfl
theorem R_cls {K : PySem.W.Frag} {I : Hp} {C : String} {v : V} : R K I (.cls C) v ↔ v = .ref (cad K C) := by unfold R; exact Iff.rfl
theorem R_tup {K : PySem.W.Frag} {I : Hp} {xs : List D} {v : V} : R K I (.tup xs) v ↔ ∃ a vs, v = .ref a ∧ SqT K I a vs ∧ Rs K I xs vs := by unfold R; exact Iff.rfl
theorem R_lst {K : PySem.W.Frag} {I : Hp} {xs : List D} {v : V} : R K I (.lst xs) v ↔ ∃ a vs, v = .ref a ∧ SqL K I a vs ∧ Rs K I xs vs := by unfold R; exact Iff.rfl
theorem R_ins {K : PySem.W.Frag} {I : Hp} {C : String} {ks : List String} {fs : List D} {v : V} : R K I (.ins C ks fs) v ↔ ∃ a dx vs, v = .ref a ∧ I a = some (.ins (cad K C) dx ((nms ks).zip vs)) ∧ ks.length = vs.length ∧ Rs K I fs vs := by unfold R; exact Iff.rfl
theorem Rs_nil {K : PySem.W.Frag} {I : Hp} {vs : List V} : Rs K I [] vs ↔ vs = [] := by unfold Rs; exact Iff.rfl
theorem Rs_cons {K : PySem.W.Frag} {I : Hp} {x : D} {xs : List D} {vs : List V} : Rs K I (x :: xs) vs ↔ ∃ v r, vs = v :: r ∧ R K I x v ∧ Rs K I xs r := by rw [Rs]
theorem Rs.length {K : PySem.W.Frag} {I : Hp} : ∀ {ds : List D} {vs : List V}, Rs K I ds vs → ds.length = vs.length
  | [], _, h => by rw [Rs_nil.mp h]; rfl
  | x :: xs, vs, h => by
    obtain ⟨v, r, rfl, _, h2⟩ := Rs_cons.mp h
    simp [Rs.length h2]
theorem Rs.get {K : PySem.W.Frag} {I : Hp} : ∀ {ds : List D} {vs : List V} {i : Nat} {d : D}, Rs K I ds vs → ds[i]? = some d → ∃ v, vs[i]? = some v ∧ R K I d v
  | [], _, i, d, h, e => by simp at e
  | x :: xs, vs, i, d, h, e => by
    obtain ⟨v, r, rfl, h1, h2⟩ := Rs_cons.mp h
    cases i with
    | zero =>
      have : x = d := by simpa using e
      subst this
      exact ⟨v, rfl, h1⟩
    | succ i =>
      have := Rs.get (i := i) (d := d) h2 (by simpa using e)
      simpa using this
theorem Rs.get' {K : PySem.W.Frag} {I : Hp} {ds : List D} {vs : List V} {i : Nat} {v : V} (h : Rs K I ds vs) (e : vs[i]? = some v) : ∃ d, ds[i]? = some d ∧ R K I d v := by
  have hl := h.length
  have hi : i < vs.length := (List.getElem?_eq_some_iff.mp e).1
  have hd : ds[i]? = some (ds[i]'(by omega)) := List.getElem?_eq_getElem _
  obtain ⟨w, e1, r⟩ := h.get hd
  rw [e] at e1
  cases e1
  exact ⟨_, hd, r⟩
theorem Rs.append {K : PySem.W.Frag} {I : Hp} : ∀ {ds es : List D} {vs ws : List V}, Rs K I ds vs → Rs K I es ws → Rs K I (ds ++ es) (vs ++ ws)
  | [], _, _, _, h, g => by rw [Rs_nil.mp h]; exact g
  | x :: xs, _, vs, _, h, g => by
    obtain ⟨v, r, rfl, h1, h2⟩ := Rs_cons.mp h
    exact Rs_cons.mpr ⟨v, _, rfl, h1, Rs.append h2 g⟩
theorem Rs.set {K : PySem.W.Frag} {I : Hp} {d : D} {v : V} (r : R K I d v) : ∀ {ds : List D} {vs : List V} (i : Nat), Rs K I ds vs → Rs K I (ds.set i d) (vs.set i v)
  | [], _, i, h => by rw [Rs_nil.mp h]; exact Rs_nil.mpr rfl
  | x :: xs, vs, i, h => by
    obtain ⟨w, l, rfl, h1, h2⟩ := Rs_cons.mp h
    cases i with
    | zero => exact Rs_cons.mpr ⟨_, _, rfl, r, h2⟩
    | succ i => exact Rs_cons.mpr ⟨_, _, rfl, h1, Rs.set r i h2⟩
theorem Rs.ints {K : PySem.W.Frag} {I : Hp} : ∀ (ns : List Int), Rs K I (ns.map D.int) (ns.map V.int)
  | [] => Rs_nil.mpr rfl
  | n :: ns => Rs_cons.mpr ⟨_, _, rfl, R_int.mpr rfl, Rs.ints ns⟩
theorem ofString_inj {a b : String} : Str.ofString a = Str.ofString b ↔ a = b := by
  constructor
  · intro h
    rw [Str.ofString_eq_toList, Str.ofString_eq_toList] at h
    have h2 : a.toList.map Char.toNat = b.toList.map Char.toNat := by
      have := congrArg (fun s : Str => s.cps.toList) h
      simpa using this
    have h3 : a.toList = b.toList := (List.map_inj_right (fun x y e => Char.ext (UInt32.toNat_inj.mp e))).mp h2
    exact String.ext h3
  · rintro rfl
    rfl
/-- what a mutable thing holds -/
inductive Cell where
  | lst (xs : List D)
  | ins (C : String) (ks : List String) (fs : List D)
/-- a slot's content: data; a mutable thing of the frame's own; one that the caller lends -/
inductive SV where
  | d (d : D)
  | own (c : Cell)
  | bor (c : Cell)
abbrev Ev := List (Option SV)
def SV.isCell : SV → Bool
  | .d _ => false
  | _ => true
def SV.isOwn : SV → Bool
  | .own _ => true
  | _ => false
def CellAt (K : PySem.W.Frag) (I H : Hp) (p : Addr) : Cell → Prop
  | .lst xs => ∃ vs, H p = some (.lst vs) ∧ Rs K I xs vs
  | .ins C ks fs => ∃ dx vs, H p = some (.ins (cad K C) dx ((nms ks).zip vs)) ∧ ks.length = vs.length ∧ Rs K I fs vs
def RS (K : PySem.W.Frag) (I H : Hp) : SV → V → Prop
  | .d d, v => R K I d v
  | .own c, v => ∃ p, v = .ref p ∧ I p = none ∧ CellAt K I H p c
  | .bor c, v => ∃ p, v = .ref p ∧ I p = none ∧ CellAt K I H p c
theorem CellAt.there {K : PySem.W.Frag} {I H : Hp} {p : Addr} {c : Cell} (h : CellAt K I H p c) : H p ≠ none := by
  cases c with
  | lst xs => obtain ⟨vs, e, _⟩ := h; rw [e]; exact fun z => nomatch z
  | ins C ks fs => obtain ⟨dx, vs, e, _⟩ := h; rw [e]; exact fun z => nomatch z
/-- the slot holds a mutable thing at a -/
def Own (σ : St) (ev : Ev) (a : Addr) : Prop := ∃ (i : Nat) (s : SV), ev[i]? = some (some s) ∧ s.isCell = true ∧ σ[i]? = some (some (.ref a))
def LOwn (σ : St) (ev : Ev) (a : Addr) : Prop := ∃ (i : Nat) (s : SV), ev[i]? = some (some s) ∧ s.isOwn = true ∧ σ[i]? = some (some (.ref a))
structure Rel (K : PySem.W.Frag) (σ : St) (ev : Ev) (I H : Hp) : Prop where
  len : ev.length = σ.length
  sub : Le I H
  slot : ∀ (i : Nat) (s : SV), ev[i]? = some (some s) → ∃ v, σ[i]? = some (some v) ∧ RS K I H s v
  sep : ∀ (i j : Nat) (s t : SV) (a : Addr), ev[i]? = some (some s) → ev[j]? = some (some t) → s.isCell = true → t.isCell = true → σ[i]? = some (some (.ref a)) → σ[j]? = some (some (.ref a)) → i = j
structure Step (σ : St) (ev : Ev) (I H : Hp) (σ' : St) (ev' : Ev) (I' H' : Hp) : Prop where
  keep : ∀ a o, H a = some o → ¬ Own σ ev a → H' a = some o
  there : ∀ a, H a ≠ none → H' a ≠ none
  le : Le I I'
  new : ∀ a, H a ≠ none → I a = none → ¬ LOwn σ ev a → I' a = none
  own : ∀ a, Own σ' ev' a → Own σ ev a ∨ H a = none
  lown : ∀ a, LOwn σ' ev' a → LOwn σ ev a ∨ H a = none
  bor : ∀ (i : Nat) (c : Cell), ev[i]? = some (some (.bor c)) → (∃ c', ev'[i]? = some (some (.bor c'))) ∧ σ'[i]? = σ[i]?
theorem LOwn.toOwn {σ : St} {ev : Ev} {a : Addr} (h : LOwn σ ev a) : Own σ ev a := by
  obtain ⟨i, s, e, h1, h2⟩ := h
  exact ⟨i, s, e, by cases s <;> first | rfl | (cases h1), h2⟩
theorem Step.refl (σ : St) (ev : Ev) (I H : Hp) : Step σ ev I H σ ev I H :=
  ⟨fun _ _ h _ => h, fun _ h => h, Le.refl _, fun _ _ h _ => h, fun _ h => .inl h, fun _ h => .inl h, fun i c h => ⟨⟨c, h⟩, rfl⟩⟩
theorem Step.trans {σ σ1 σ2 : St} {ev ev1 ev2 : Ev} {I H I1 H1 I2 H2 : Hp} (a : Step σ ev I H σ1 ev1 I1 H1) (b : Step σ1 ev1 I1 H1 σ2 ev2 I2 H2) : Step σ ev I H σ2 ev2 I2 H2 where
  keep := fun x o h n => b.keep x o (a.keep x o h n) fun w => (a.own x w).elim n fun z => by rw [h] at z; cases z
  there := fun x h => b.there x (a.there x h)
  le := a.le.trans b.le
  new := fun x h i n => b.new x (a.there x h) (a.new x h i n) fun w => (a.lown x w).elim n h
  own := fun x w => (b.own x w).elim (a.own x) fun z => .inr (Classical.byContradiction fun q => a.there x q z)
  lown := fun x w => (b.lown x w).elim (a.lown x) fun z => .inr (Classical.byContradiction fun q => a.there x q z)
  bor := fun i c h => by
    obtain ⟨⟨c1, h1⟩, e1⟩ := a.bor i c h
    obtain ⟨h2, e2⟩ := b.bor i c1 h1
    exact ⟨h2, e2.trans e1⟩
/-- the heap grows; the data grows -/
structure Ex (I H I' H' : Hp) : Prop where
  same : Le H H'
  le : Le I I'
  sub : Le I' H'
  new : ∀ a, H a ≠ none → I a = none → I' a = none
theorem Ex.refl {I H : Hp} (s : Le I H) : Ex I H I H := ⟨Le.refl _, Le.refl _, s, fun _ _ h => h⟩
theorem Ex.trans {I H I1 H1 I2 H2 : Hp} (a : Ex I H I1 H1) (b : Ex I1 H1 I2 H2) : Ex I H I2 H2 :=
  ⟨a.same.trans b.same, a.le.trans b.le, b.sub, fun x h i => b.new x (fun z => by
    cases e : H x with
    | none => exact h e
    | some o => rw [a.same x o e] at z; cases z) (a.new x h i)⟩
/-- a new object that is data from now on -/
theorem Ex.alloc {I H : Hp} (s : Le I H) {p : Addr} {o : HO} (h : H p = none) : Ex I H (upd I p o) (upd H p o) where
  same := fun a u e => by rw [upd_ne (ne_of_none e h)]; exact e
  le := fun a u e => by rw [upd_ne (ne_of_none (s a u e) h)]; exact e
  sub := fun a u e => by
    by_cases q : a = p
    · subst q; rw [upd_same] at e ⊢; exact e
    · rw [upd_ne q] at e ⊢; exact s a u e
  new := fun a h1 h2 => by
    by_cases q : a = p
    · subst q; exact absurd h h1
    · rw [upd_ne q]; exact h2
/-- a new object that is not data (yet) -/
theorem Ex.laid {I H : Hp} (s : Le I H) {p : Addr} {o : HO} (h : H p = none) : Ex I H I (upd H p o) where
  same := fun a u e => by rw [upd_ne (ne_of_none e h)]; exact e
  le := Le.refl _
  sub := fun a u e => by rw [upd_ne (ne_of_none (s a u e) h)]; exact s a u e
  new := fun _ _ h2 => h2
theorem CellAt.mono {K : PySem.W.Frag} {I H I' H' : Hp} {p : Addr} {c : Cell} (l : Le I I') (k : ∀ o, H p = some o → H' p = some o) (h : CellAt K I H p c) : CellAt K I' H' p c := by
  cases c with
  | lst xs => obtain ⟨vs, e, r⟩ := h; exact ⟨vs, k _ e, Rs.mono l _ _ r⟩
  | ins C ks fs => obtain ⟨dx, vs, e, n, r⟩ := h; exact ⟨dx, vs, k _ e, n, Rs.mono l _ _ r⟩
theorem Rel.cell {K : PySem.W.Frag} {σ : St} {ev : Ev} {I H : Hp} (r : Rel K σ ev I H) {i : Nat} {s : SV} (e : ev[i]? = some (some s)) (hc : s.isCell = true) :
    ∃ p c, σ[i]? = some (some (.ref p)) ∧ I p = none ∧ CellAt K I H p c ∧ (s = .own c ∨ s = .bor c) := by
  obtain ⟨v, h1, h2⟩ := r.slot i s e
  cases s with
  | d d => cases hc
  | own c => obtain ⟨p, rfl, h3, h4⟩ := h2; exact ⟨p, c, h1, h3, h4, .inl rfl⟩
  | bor c => obtain ⟨p, rfl, h3, h4⟩ := h2; exact ⟨p, c, h1, h3, h4, .inr rfl⟩
theorem Rel.ex {K : PySem.W.Frag} {σ : St} {ev : Ev} {I H I' H' : Hp} (r : Rel K σ ev I H) (x : Ex I H I' H') : Rel K σ ev I' H' where
  len := r.len
  sub := x.sub
  slot := fun i s e => by
    obtain ⟨v, h1, h2⟩ := r.slot i s e
    refine ⟨v, h1, ?_⟩
    have cell : ∀ c p, I p = none → CellAt K I H p c → I' p = none ∧ CellAt K I' H' p c := fun c p h3 h4 => ⟨x.new p h4.there h3, h4.mono x.le fun o => x.same p o⟩
    cases s with
    | d d => exact R.mono x.le _ _ h2
    | own c => obtain ⟨p, e, h3, h4⟩ := h2; exact ⟨p, e, cell c p h3 h4⟩
    | bor c => obtain ⟨p, e, h3, h4⟩ := h2; exact ⟨p, e, cell c p h3 h4⟩
  sep := r.sep
theorem Ex.step {σ : St} {ev : Ev} {I H I' H' : Hp} (x : Ex I H I' H') : Step σ ev I H σ ev I' H' where
  keep := fun a o h _ => x.same a o h
  there := fun a h z => by
    cases e : H a with
    | none => exact h e
    | some o => rw [x.same a o e] at z; cases z
  le := x.le
  new := fun a h i _ => x.new a h i
  own := fun _ h => .inl h
  lown := fun _ h => .inl h
  bor := fun i c h => ⟨⟨c, h⟩, rfl⟩
/-- an exception: its class's name, its fields -/
structure Err where
  x : String
  ks : List String
  fs : List D
inductive Out (α : Type) where
  | ok (a : α) (ev : Ev)
  | er (e : Err) (ev : Ev)
abbrev M (α : Type) := Ev → Option (Out α)
def M.bind {α β : Type} (c : M α) (f : α → M β) : M β := fun ev => match c ev with
  | none => none
  | some (.ok a ev') => f a ev'
  | some (.er e ev') => some (.er e ev')
def M.ret {α : Type} (a : α) : M α := fun ev => some (.ok a ev)
def M.opt {α : Type} (o : Option α) : M α := fun ev => o.map fun a => .ok a ev
def XD (K : PySem.W.Frag) (I H : Hp) (dd : Addr) (e : Err) : Prop := ∃ vs, H dd = some (.xd ((nms e.ks).zip vs)) ∧ e.ks.length = vs.length ∧ Rs K I e.fs vs
def Post {α : Type} (K : PySem.W.Frag) (W : WX) (c : M α) (σ : St) (ev : Ev) (I H : Hp) (G : α → Ev → Hp → Hp → Prop) : Prop :=
  match c ev with
  | none => False
  | some (.ok a ev') => ∀ I' H', Step σ ev I H σ ev' I' H' → Rel K σ ev' I' H' → G a ev' I' H'
  | some (.er e ev') => ∀ I' H' dd, Step σ ev I H σ ev' I' H' → Rel K σ ev' I' H' → XD K I' H' dd e → W (.ref (cad K e.x)) (some dd) σ H'
theorem Post.bind {α β : Type} {K : PySem.W.Frag} {W : WX} {c : M α} {f : α → M β} {σ : St} {ev : Ev} {I H : Hp} {G : β → Ev → Hp → Hp → Prop} (h : Post K W (c.bind f) σ ev I H G) :
    Post K W c σ ev I H fun a ev1 I1 H1 => Post K W (f a) σ ev1 I1 H1 G := by
  unfold Post M.bind at h
  unfold Post
  cases e : c ev with
  | none => rw [e] at h; exact h
  | some o =>
    rw [e] at h
    cases o with
    | er x ev' => exact h
    | ok a ev1 =>
      intro I1 H1 s1 r1
      simp only at h ⊢
      cases e2 : f a ev1 with
      | none => rw [e2] at h; exact h
      | some o2 =>
        rw [e2] at h
        cases o2 with
        | ok b ev2 => intro I2 H2 s2 r2; exact h I2 H2 (s1.trans s2) r2
        | er x ev2 => intro I2 H2 dd s2 r2 xd; exact h I2 H2 dd (s1.trans s2) r2 xd
theorem Post.imp {α : Type} {K : PySem.W.Frag} {W : WX} {c : M α} {σ : St} {ev : Ev} {I H : Hp} {G G' : α → Ev → Hp → Hp → Prop} (h : Post K W c σ ev I H G) (g : ∀ a ev' I' H', Step σ ev I H σ ev' I' H' → Rel K σ ev' I' H' → G a ev' I' H' → G' a ev' I' H') : Post K W c σ ev I H G' := by
  unfold Post at h ⊢
  cases e : c ev with
  | none => rw [e] at h; exact h
  | some o =>
    rw [e] at h
    cases o with
    | ok a ev' => intro I' H' s r; exact g a ev' I' H' s r (h I' H' s r)
    | er x ev' => exact h
theorem Post.ret {α : Type} {K : PySem.W.Frag} {W : WX} {a : α} {σ : St} {ev : Ev} {I H : Hp} {G : α → Ev → Hp → Hp → Prop} (r : Rel K σ ev I H) (h : Post K W (M.ret a) σ ev I H G) : G a ev I H := h I H (Step.refl ..) r
theorem Post.opt {α : Type} {K : PySem.W.Frag} {W : WX} {o : Option α} {σ : St} {ev : Ev} {I H : Hp} {G : α → Ev → Hp → Hp → Prop} (h : Post K W (M.opt o) σ ev I H G) : ∃ a, o = some a ∧ ∀ I' H', Step σ ev I H σ ev I' H' → Rel K σ ev I' H' → G a ev I' H' := by
  unfold Post M.opt at h
  cases o with
  | none => exact h.elim
  | some a => exact ⟨a, rfl, h⟩
def RG (K : PySem.W.Frag) (Q : VK) : D → Ev → Hp → Hp → Prop := fun d _ I' H' => ∀ v, R K I' d v → Q v H'
def SimE (K : PySem.W.Frag) (W : WX) (t : TE) (c : M D) : Prop := ∀ (σ : St) (ev : Ev) (I H : Hp) (Q : VK), Rel K σ ev I H → Post K W c σ ev I H (RG K Q) → t σ H Q
def SE (X : Cx) (W : WX) (e : Expr) (c : M D) : Prop := ∃ t, PE X e t ∧ SimE X.K W t c
def SimT (K : PySem.W.Frag) (W : WX) (t : TT) (c : M Bool) : Prop := ∀ (σ : St) (ev : Ev) (I H : Hp) (Q : Bool → Hp → Prop), Rel K σ ev I H → Post K W c σ ev I H (fun b _ _ H' => Q b H') → t σ H Q
def STt (X : Cx) (W : WX) (e : Expr) (c : M Bool) : Prop := ∃ t, PT X e t ∧ SimT X.K W t c
def SimA (K : PySem.W.Frag) (W : WX) (t : TA) (c : M (List D)) : Prop := ∀ (σ : St) (ev : Ev) (I H : Hp) (Q : List V → Hp → Prop), Rel K σ ev I H → Post K W c σ ev I H (fun ds _ I' H' => ∀ vs, Rs K I' ds vs → Q vs H') → t σ H Q
def SA (X : Cx) (W : WX) (es : List Expr) (c : M (List D)) : Prop := ∃ t, PA X es t ∧ SimA X.K W t c
end FL
set_option Elab.async false
set_option linter.all false
set_option maxRecDepth 100000
namespace FL
open PySem
open PySem.Spec
open L2
def mVar (i : Nat) : M D := fun ev => match ev[i]? with
  | some (some (.d d)) => some (.ok d ev)
  | _ => none
def M.fail {α : Type} : M α := fun _ => none
section
variable {X : Cx} {W : WX} {a b c e : Expr} {pos : Pos}
theorem simE_var {K : PySem.W.Frag} (i : Nat) : SimE K W (tVar i) (mVar i) := fun σ ev I H Q rel h => by
  unfold Post mVar at h
  split at h
  · exact h.elim
  · rename_i d ev' q
    split at q
    · rename_i d0 e0
      cases q
      obtain ⟨v, h1, h2⟩ := rel.slot i _ e0
      exact ⟨v, h1, h I H (Step.refl ..) rel v h2⟩
    · cases q
  · rename_i x ev' q
    split at q <;> cases q
theorem se_var (i : Nat) {x : Str} (hN : X.N[i]? = some x) (hv : Vis X.env.scope x) (hd : (x == ("__debug__" : Str)) = false := by decide +kernel) (hcd : (x == ("__classdict__" : Str)) = false := by decide +kernel) : SE X W (.Name x pos) (mVar i) :=
  ⟨_, pe_var hN hv hd hcd, simE_var i⟩
theorem simE_C {K : PySem.W.Frag} {v : V} {d : D} (r : ∀ I, R K I d v) : SimE K W (tC v) (M.ret d) := fun σ ev I H Q rel h => Post.ret rel h v (r I)
theorem se_int {i j} : SE X W (.Constant (.int i) j pos) (M.ret (.int i)) := ⟨_, pe_int, simE_C fun _ => R_int.mpr rfl⟩
theorem se_bl {i j} : SE X W (.Constant (.bool i) j pos) (M.ret (.bl i)) := ⟨_, pe_bl, simE_C fun _ => R_bl.mpr rfl⟩
theorem se_str {i j} : SE X W (.Constant (.str i) j pos) (M.ret (.str i)) := ⟨_, pe_str, simE_C fun _ => R_str.mpr rfl⟩
theorem se_non {j} : SE X W (.Constant .none j pos) (M.ret .non) := ⟨_, pe_non, simE_C fun _ => R_non.mpr rfl⟩
/-- a constant of the module's own -/
def Glb (K : PySem.W.Frag) (mg : Str → Option Value) (x : Str) (d : D) : Prop := ∃ u v, mg x = some u ∧ RelV v u ∧ R K (fun _ => none) d v
theorem se_glob {x : Str} {d : D} (h : Glb X.K X.mg x d) (hg : Gl X x) (hd : (x == ("__debug__" : Str)) = false := by decide +kernel) : SE X W (.Name x pos) (M.ret d) := by
  obtain ⟨u, v, h1, h2, h3⟩ := h
  exact ⟨_, pe_glob hg h1 h2 hd, simE_C fun I => R.mono (fun _ _ z => by cases z) _ _ h3⟩
theorem se_ty {x : Str} {n : String} (hm : X.mg x = none) (hg : Gl X x) (hv : bootBuiltins x = some (.type n)) (hn : x ≠ "__name__" := by decide +kernel) (hd : (x == ("__debug__" : Str)) = false := by decide +kernel) : SE X W (.Name x pos) (M.ret (.ty n)) :=
  ⟨_, pe_bltn hg hm hv (show RelV (.ty n) (.type n) from rfl) hn hd, simE_C fun _ => R_ty.mpr rfl⟩
def OpS (X : Cx) (f : Value → Value → Sem Value) (g : D → D → Option D) : Prop := ∃ r, OpR X f r ∧
  ∀ (I H : Hp) (a b : D) (x y : V) (d : D) (Q : VK), Le I H → g a b = some d → R X.K I a x → R X.K I b y → (∀ I' H' v, Ex I H I' H' → R X.K I' d v → Q v H') → r x y H Q
def dOr (g g' : D → D → Option D) : D → D → Option D := fun a b => match g a b with
  | some d => some d
  | none => g' a b
def m2 (g : D → D → Option D) (ca cb : M D) : M D := ca.bind fun x => cb.bind fun y => M.opt (g x y)
theorem sim2 {g : D → D → Option D} {r : R2} {ta tb : TE} {ca cb : M D} (hg : ∀ (I H : Hp) (a b : D) (x y : V) (d : D) (Q : VK), Le I H → g a b = some d → R X.K I a x → R X.K I b y → (∀ I' H' v, Ex I H I' H' → R X.K I' d v → Q v H') → r x y H Q)
    (sa : SimE X.K W ta ca) (sb : SimE X.K W tb cb) : SimE X.K W (tOp r ta tb) (m2 g ca cb) := fun σ ev I H Q rel h =>
  sa σ ev I H _ rel ((Post.bind h).imp fun x ev1 I1 H1 s1 r1 h1 vx rx =>
    sb σ ev1 I1 H1 _ r1 ((Post.bind h1).imp fun y ev2 I2 H2 s2 r2 h2 vy ry => by
      obtain ⟨d, e, k⟩ := Post.opt h2
      exact hg I2 H2 x y vx vy d Q r2.sub e (R.mono s2.le _ _ rx) ry fun I' H' v ex rv => k I' H' ex.step (r2.ex ex) v rv))
theorem se_op {op : Operator} {g : D → D → Option D} {ca cb : M D} (ho : OpS X (binaryOp op) g) (ha : SE X W a ca) (hb : SE X W b cb) : SE X W (.BinOp a op b pos) (m2 g ca cb) := by
  obtain ⟨r, ho, hg⟩ := ho
  obtain ⟨ta, pa, sa⟩ := ha
  obtain ⟨tb, pb, sb⟩ := hb
  exact ⟨_, pe_op ho pa pb, sim2 hg sa sb⟩
theorem se_cmp {op : CmpOp} {g : D → D → Option D} {ca cb : M D} (ho : OpS X (compareOp op) g) (ha : SE X W a ca) (hb : SE X W b cb) (hm : behindInMarks op b = false) : SE X W (.Compare a [op] [b] pos) (m2 g ca cb) := by
  obtain ⟨r, ho, hg⟩ := ho
  obtain ⟨ta, pa, sa⟩ := ha
  obtain ⟨tb, pb, sb⟩ := hb
  exact ⟨_, pe_cmpR ho pa pb hm, sim2 hg sa sb⟩
theorem OpS.or {f : Value → Value → Sem Value} {g g' : D → D → Option D} (h : OpS X f g) (h' : OpS X f g') : OpS X f (dOr g g') := by
  obtain ⟨r, ho, hg⟩ := h
  obtain ⟨r', ho', hg'⟩ := h'
  refine ⟨_, ho.or ho', fun I H a b x y d Q l e rx ry k => ?_⟩
  unfold dOr at e
  cases q : g a b with
  | some d' =>
    rw [q] at e
    cases e
    exact .inl (hg I H a b x y _ Q l q rx ry k)
  | none =>
    rw [q] at e
    exact .inr (hg' I H a b x y d Q l e rx ry k)
def dI (C : Int → Int → Prop) [∀ i j, Decidable (C i j)] (gd : Int → Int → D) : D → D → Option D := fun a b => match a, b with
  | .int i, .int j => if C i j then some (gd i j) else none
  | _, _ => none
def dI0 (gd : Int → Int → D) : D → D → Option D := fun a b => match a, b with
  | .int i, .int j => some (gd i j)
  | _, _ => none
/-- ints in, a scalar out -/
theorem OpS.ints {f : Value → Value → Sem Value} {C : Int → Int → Prop} [∀ i j, Decidable (C i j)] {g : Int → Int → V} {gd : Int → Int → D} (ho : OpR X f (rI C g)) (hd : ∀ i j I, R X.K I (gd i j) (g i j)) :
    OpS X f (dI C gd) := by
  refine ⟨_, ho, fun I H a b x y d Q l e rx ry k => ?_⟩
  unfold dI at e
  split at e
  · rename_i i j
    split at e
    · rename_i hc
      cases e
      rw [R_int] at rx ry
      exact ⟨i, j, rx, ry, hc, k I H _ (Ex.refl l) (hd i j I)⟩
    · cases e
  · cases e
theorem OpS.ints0 {f : Value → Value → Sem Value} {g : Int → Int → V} {gd : Int → Int → D} (ho : OpR X f (rI0 g)) (hd : ∀ i j I, R X.K I (gd i j) (g i j)) :
    OpS X f (dI0 gd) := by
  refine ⟨_, ho, fun I H a b x y d Q l e rx ry k => ?_⟩
  unfold dI0 at e
  split at e
  · rename_i i j
    cases e
    rw [R_int] at rx ry
    exact ⟨i, j, rx, ry, k I H _ (Ex.refl l) (hd i j I)⟩
  · cases e
theorem OpS.eq {f : Value → Value → Sem Value} {g g' : D → D → Option D} (h : OpS X f g) (e : ∀ a b, g' a b = g a b) : OpS X f g' := by
  have : g' = g := funext fun a => funext fun b => e a b
  rw [this]
  exact h
def dSub : D → D → Option D
  | .int i, .int j => some (.int (i - j))
  | _, _ => none
theorem os_sub : OpS X (binaryOp .Sub) dSub := (OpS.ints0 op_sub fun _ _ _ => R_int.mpr rfl).eq fun a b => by cases a <;> cases b <;> rfl
/-- the limit of products: both sides together -/
def mulOk (i j : Int) : Prop := i.natAbs.log2 + j.natAbs.log2 < 1000000
instance (i j : Int) : Decidable (mulOk i j) := inferInstanceAs (Decidable (_ < _))
def dMulI : D → D → Option D
  | .int i, .int j => if mulOk i j then some (.int (i * j)) else none
  | _, _ => none
theorem os_mulI : OpS X (binaryOp .Mult) dMulI := (OpS.ints (C := mulOk) op_mulW fun _ _ _ => R_int.mpr rfl).eq fun a b => by cases a <;> cases b <;> rfl
def fdivOk (_ j : Int) : Prop := 0 < j ∧ j.natAbs.log2 < 9000
instance (i j : Int) : Decidable (fdivOk i j) := inferInstanceAs (Decidable (_ ∧ _))
def dFdiv : D → D → Option D
  | .int i, .int j => if fdivOk i j then some (.int (i / j)) else none
  | _, _ => none
theorem os_fdiv : OpS X (binaryOp .FloorDiv) dFdiv := (OpS.ints (C := fdivOk) op_fdivW fun _ _ _ => R_int.mpr rfl).eq fun a b => by cases a <;> cases b <;> rfl
def dMod : D → D → Option D
  | .int i, .int j => if 0 < j then some (.int (i % j)) else none
  | _, _ => none
theorem os_mod : OpS X (binaryOp .Mod) dMod := (OpS.ints (C := fun _ j => 0 < j) op_mod fun _ _ _ => R_int.mpr rfl).eq fun a b => by cases a <;> cases b <;> rfl
def powOk (i j : Int) : Prop := 0 ≤ j ∧ j ≤ 1000000 ∧ i.natAbs < 2 ^ 64
instance (i j : Int) : Decidable (powOk i j) := inferInstanceAs (Decidable (_ ∧ _))
def dPow : D → D → Option D
  | .int i, .int j => if powOk i j then some (.int (i ^ j.toNat)) else none
  | _, _ => none
theorem os_pow : OpS X (binaryOp .Pow) dPow := (OpS.ints (C := powOk) op_pow fun _ _ _ => R_int.mpr rfl).eq fun a b => by cases a <;> cases b <;> rfl
def dLt : D → D → Option D
  | .int i, .int j => some (.bl (decide (i < j)))
  | _, _ => none
def dLe : D → D → Option D
  | .int i, .int j => some (.bl (decide (i ≤ j)))
  | _, _ => none
def dGt : D → D → Option D
  | .int i, .int j => some (.bl (decide (j < i)))
  | _, _ => none
def dGe : D → D → Option D
  | .int i, .int j => some (.bl (decide (j ≤ i)))
  | _, _ => none
theorem os_lt : OpS X (compareOp .Lt) dLt := (OpS.ints0 op_lt fun _ _ _ => R_bl.mpr rfl).eq fun a b => by cases a <;> cases b <;> rfl
theorem os_le : OpS X (compareOp .LtE) dLe := (OpS.ints0 op_le fun _ _ _ => R_bl.mpr rfl).eq fun a b => by cases a <;> cases b <;> rfl
theorem os_gt : OpS X (compareOp .Gt) dGt := (OpS.ints0 op_gt fun _ _ _ => R_bl.mpr rfl).eq fun a b => by cases a <;> cases b <;> rfl
theorem os_ge : OpS X (compareOp .GtE) dGe := (OpS.ints0 op_ge fun _ _ _ => R_bl.mpr rfl).eq fun a b => by cases a <;> cases b <;> rfl
def dAddI : D → D → Option D
  | .int i, .int j => some (.int (i + j))
  | _, _ => none
theorem os_addI : OpS X (binaryOp .Add) dAddI := (OpS.ints0 op_add fun _ _ _ => R_int.mpr rfl).eq fun a b => by cases a <;> cases b <;> rfl
def dAddS : D → D → Option D
  | .str i, .str j => if i.length + j.length ≤ sizeLine then some (.str (i ++ j)) else none
  | _, _ => none
theorem os_addS : OpS X (binaryOp .Add) dAddS := by
  refine ⟨_, op_add_str, fun I H a b x y d Q l e rx ry k => ?_⟩
  unfold dAddS at e
  split at e
  · split at e
    · rename_i hc
      cases e
      rw [R_str] at rx ry
      exact ⟨_, _, rx, ry, hc, k I H _ (Ex.refl l) (R_str.mpr rfl)⟩
    · cases e
  · cases e
def dAddT : D → D → Option D
  | .tup xs, .tup ys => if xs.length + ys.length ≤ sizeLine ∧ xs ≠ [] ∧ ys ≠ [] then some (.tup (xs ++ ys)) else none
  | _, _ => none
theorem Rs.ne {K : PySem.W.Frag} {I : Hp} {ds : List D} {vs : List V} (h : Rs K I ds vs) (n : ds ≠ []) : vs ≠ [] := by
  intro z
  subst z
  have := h.length
  cases ds with
  | nil => exact n rfl
  | cons => simp at this
theorem os_addT : OpS X (binaryOp .Add) dAddT := by
  refine ⟨_, op_catT, fun I H a b x y d Q l e rx ry k => ?_⟩
  unfold dAddT at e
  split at e
  · split at e
    · rename_i xs ys hc
      cases e
      obtain ⟨p, vs, rfl, h1, h2⟩ := R_tup.mp rx
      obtain ⟨q, ws, rfl, h3, h4⟩ := R_tup.mp ry
      refine ⟨p, q, vs, ws, rfl, rfl, l.sqT h1, l.sqT h3, h2.ne hc.2.1, by rw [← h2.length, ← h4.length]; exact hc.1, fun z => absurd z (h4.ne hc.2.2), fun _ t ht => ?_⟩
      have ex := Ex.alloc (o := HO.tup (vs ++ ws)) l ht
      exact k _ _ _ ex (R_tup.mpr ⟨t, _, rfl, SqT.of upd_same, Rs.mono ex.le _ _ (h2.append h4)⟩)
    · cases e
  · cases e
end
end FL
set_option Elab.async false
set_option linter.all false
set_option maxRecDepth 100000
namespace FL
open PySem
open PySem.Spec
open L2
section
variable {X : Cx} {W : WX} {a b c e : Expr} {pos : Pos}
def rCatL (K : PySem.W.Frag) : R2 := fun x y H Q => ∃ l b xs zs, x = .ref l ∧ y = .ref b ∧ SqL K H l xs ∧ SqL K H b zs ∧ xs.length + zs.length ≤ sizeLine ∧ ∀ p, H p = none → Q (.ref p) (upd H p (.lst (xs ++ zs)))
theorem op_catL : OpR X (binaryOp .Add) (rCatL X.K) := by
  intro pins s σ H x y v u Q I rx ry hcat
  obtain ⟨l, b, xs, zs, rfl, rfl, hl, hb, hz, q⟩ := hcat
  cases rx
  cases ry
  obtain ⟨its, r, p1, _⟩ := I.list hl
  obtain ⟨its2, r2, p2, _⟩ := I.list hb
  obtain ⟨⟨oc, od, odt, osl⟩, n, ho, hc, _, hd⟩ := id p1
  obtain ⟨⟨oc2, od2, odt2, osl2⟩, n2, ho2, hc2, _, hd2⟩ := id p2
  simp only at hc hd hc2 hd2
  subst hc hd hc2 hd2
  have both : its.toArray ++ its2.toArray = (its ++ its2).toArray := by simp
  refine concat_meets ⟨_, ho, rfl⟩ ⟨_, ho2, rfl⟩ noFill_list_add seq_list_add F.slot_list_add F.entry_list_add (F.args_list_add_2 _ _)
    (PyProof.Rows.list_addW l b its.toArray its2.toArray n n2 od od2 osl osl2 (by rw [List.size_toArray, List.size_toArray, ← r.length, ← r2.length]; exact hz)) ⟨ho, ho2, ?_⟩
  rw [both]
  have short : (xs ++ zs).length ≤ sizeLine := by rw [List.length_append]; omega
  exact ⟨.ref _, _, I.lnew (t' := s.toks) (r.append r2) short, rfl, q _ I.fresh⟩
def dAddL : D → D → Option D
  | .lst xs, .lst ys => if xs.length + ys.length ≤ sizeLine then some (.lst (xs ++ ys)) else none
  | _, _ => none
theorem os_addL : OpS X (binaryOp .Add) dAddL := by
  refine ⟨_, op_catL, fun I H a b x y d Q l e rx ry k => ?_⟩
  unfold dAddL at e
  split at e
  · split at e
    · rename_i xs ys hc
      cases e
      obtain ⟨p, vs, rfl, h1, h2⟩ := R_lst.mp rx
      obtain ⟨q, ws, rfl, h3, h4⟩ := R_lst.mp ry
      refine ⟨p, q, vs, ws, rfl, rfl, l.sqL h1, l.sqL h3, by rw [← h2.length, ← h4.length]; exact hc, fun t ht => ?_⟩
      have ex := Ex.alloc (o := HO.lst (vs ++ ws)) l ht
      exact k _ _ _ ex (R_lst.mpr ⟨t, _, rfl, SqL.of upd_same, Rs.mono ex.le _ _ (h2.append h4)⟩)
    · cases e
  · cases e
def dAddT' : D → D → Option D
  | .tup xs, .tup ys => if xs.length + ys.length ≤ sizeLine then some (.tup (xs ++ ys)) else none
  | _, _ => none
theorem os_addT' : OpS X (binaryOp .Add) dAddT' := by
  refine ⟨_, op_catA, fun I H a b x y d Q l e rx ry k => ?_⟩
  unfold dAddT' at e
  split at e
  · split at e
    · rename_i xs ys hc
      cases e
      obtain ⟨p, vs, rfl, h1, h2⟩ := R_tup.mp rx
      obtain ⟨q, ws, rfl, h3, h4⟩ := R_tup.mp ry
      refine ⟨p, q, vs, ws, rfl, rfl, l.sqT h1, l.sqT h3, by rw [← h2.length, ← h4.length]; exact hc, fun z => ?_, fun _ z => ?_, fun _ _ t ht => ?_⟩
      · subst z
        have : xs = [] := List.length_eq_zero_iff.mp (by rw [h2.length]; rfl)
        subst this
        exact k I H _ (Ex.refl l) ry
      · subst z
        have : ys = [] := List.length_eq_zero_iff.mp (by rw [h4.length]; rfl)
        subst this
        rw [List.append_nil] at k
        exact k I H _ (Ex.refl l) rx
      · have ex := Ex.alloc (o := HO.tup (vs ++ ws)) l ht
        exact k _ _ _ ex (R_tup.mpr ⟨t, _, rfl, SqT.of upd_same, Rs.mono ex.le _ _ (h2.append h4)⟩)
    · cases e
  · cases e
/-- + of ints, texts, lists, tuples -/
def dAdd : D → D → Option D
  | .int i, .int j => some (.int (i + j))
  | .str i, .str j => if i.length + j.length ≤ sizeLine then some (.str (i ++ j)) else none
  | .lst xs, .lst ys => if xs.length + ys.length ≤ sizeLine then some (.lst (xs ++ ys)) else none
  | .tup xs, .tup ys => if xs.length + ys.length ≤ sizeLine then some (.tup (xs ++ ys)) else none
  | _, _ => none
theorem os_add : OpS X (binaryOp .Add) dAdd := (os_addI.or (os_addS.or (os_addL.or os_addT'))).eq fun a b => by
  cases a <;> cases b <;> simp only [dAdd, dOr, dAddI, dAddS, dAddL, dAddT'] <;> (split <;> first | rfl | (split <;> rfl))
def scV : D → Option V
  | .non => some .non
  | .bl b => some (.bl b)
  | .int i => some (.int i)
  | .str x => some (.str x)
  | _ => none
theorem scV_rel {K : PySem.W.Frag} {I : Hp} {d : D} {v w : V} (h : scV d = some w) (r : R K I d v) : v = w := by
  cases d <;> simp only [scV, Option.some.injEq, reduceCtorEq] at h <;> subst h
  · exact R_non.mp r
  · exact R_bl.mp r
  · exact R_int.mp r
  · exact R_str.mp r
mutual
def toPy : D → Option PyData
  | .non => some .none
  | .bl b => some (.bool b)
  | .int i => some (.int i)
  | .str x => some (.str x)
  | .tup xs => (toPys xs).map .tuple
  | .lst xs => (toPys xs).map .list
  | _ => none
def toPys : List D → Option (List PyData)
  | [] => some []
  | x :: xs => match toPy x, toPys xs with
    | some p, some ps => some (p :: ps)
    | _, _ => none
end
mutual
theorem toPy_dp {K : PySem.W.Frag} {I H : Hp} (l : Le I H) : ∀ (d : D) (p : PyData) (v : V), toPy d = some p → R K I d v → Dp K H v p
  | .non, p, v, e, r => by
    unfold toPy at e
    cases e
    rw [R_non.mp r]
    exact .non
  | .bl b, p, v, e, r => by
    unfold toPy at e
    cases e
    rw [R_bl.mp r]
    exact .bl b
  | .int b, p, v, e, r => by
    unfold toPy at e
    cases e
    rw [R_int.mp r]
    exact .int b
  | .str b, p, v, e, r => by
    unfold toPy at e
    cases e
    rw [R_str.mp r]
    exact .str b
  | .ty _, p, v, e, r => by unfold toPy at e; cases e
  | .cls _, p, v, e, r => by unfold toPy at e; cases e
  | .ins _ _ _, p, v, e, r => by unfold toPy at e; cases e
  | .tup xs, p, v, e, r => by
    unfold toPy at e
    obtain ⟨ps, e1, rfl⟩ := Option.map_eq_some_iff.mp e
    obtain ⟨a, vs, rfl, h1, h2⟩ := R_tup.mp r
    exact .tup (l.sqT h1) (toPys_dp l xs ps vs e1 h2)
  | .lst xs, p, v, e, r => by
    unfold toPy at e
    obtain ⟨ps, e1, rfl⟩ := Option.map_eq_some_iff.mp e
    obtain ⟨a, vs, rfl, h1, h2⟩ := R_lst.mp r
    exact .lst (l.sqL h1) (toPys_dp l xs ps vs e1 h2)
theorem toPys_dp {K : PySem.W.Frag} {I H : Hp} (l : Le I H) : ∀ (ds : List D) (ps : List PyData) (vs : List V), toPys ds = some ps → Rs K I ds vs → DpAll K H vs ps
  | [], ps, vs, e, r => by
    unfold toPys at e
    cases e
    rw [Rs_nil.mp r]
    exact .nil
  | x :: xs, ps, vs, e, r => by
    obtain ⟨v, w, rfl, h1, h2⟩ := Rs_cons.mp r
    unfold toPys at e
    split at e
    · rename_i p ps' e1 e2
      cases e
      exact .cons (toPy_dp l x p v e1 h1) (toPys_dp l xs ps' w e2 h2)
    · cases e
end
def dEqS : D → D → Option D := fun a b => match scV a, scV b with
  | some x, some y => if scal x y = true then some (.bl (decide (x = y))) else none
  | _, _ => none
def dEqP : D → D → Option D := fun a b => match toPy a, toPy b with
  | some x, some y => if SeqAt.shaped x = true ∧ SeqAt.shaped y = true then some (.bl (PyData.eqv x y)) else none
  | _, _ => none
def dNot : Option D → Option D
  | some (.bl b) => some (.bl (!b))
  | _ => none
/-- == of data -/
def dEq : D → D → Option D := dOr dEqS dEqP
def dNe : D → D → Option D := fun a b => dNot (dEq a b)
theorem dEqS_some {a b d : D} (h : dEqS a b = some d) : ∃ x y, scV a = some x ∧ scV b = some y ∧ scal x y = true ∧ d = .bl (decide (x = y)) := by
  unfold dEqS at h
  split at h
  · rename_i v w e1 e2
    split at h
    · rename_i hs
      cases h
      exact ⟨v, w, e1, e2, hs, rfl⟩
    · cases h
  · cases h
theorem dEqP_some {a b d : D} (h : dEqP a b = some d) : ∃ x y, toPy a = some x ∧ toPy b = some y ∧ SeqAt.shaped x = true ∧ SeqAt.shaped y = true ∧ d = .bl (PyData.eqv x y) := by
  unfold dEqP at h
  split at h
  · rename_i v w e1 e2
    split at h
    · rename_i hs
      cases h
      exact ⟨v, w, e1, e2, hs.1, hs.2, rfl⟩
    · cases h
  · cases h
theorem os_eq (hu : X.A.units + 64 < cLine) : OpS X (compareOp .Eq) dEq := by
  refine OpS.or ⟨_, op_eq, fun I H a b x y d Q l e rx ry k => ?_⟩ ⟨_, op_eqD hu, fun I H a b x y d Q l e rx ry k => ?_⟩
  · obtain ⟨v, w, e1, e2, hs, rfl⟩ := dEqS_some e
    rw [scV_rel e1 rx, scV_rel e2 ry]
    exact ⟨hs, k I H _ (Ex.refl l) (R_bl.mpr rfl)⟩
  · obtain ⟨v, w, e1, e2, hs, ht, rfl⟩ := dEqP_some e
    exact ⟨v, w, toPy_dp l a v x e1 rx, toPy_dp l b w y e2 ry, hs, ht, k I H _ (Ex.refl l) (R_bl.mpr rfl)⟩
theorem dNot_some {o : Option D} {d : D} (h : dNot o = some d) : ∃ b, o = some (.bl b) ∧ d = .bl (!b) := by
  unfold dNot at h
  split at h
  · cases h; exact ⟨_, rfl, rfl⟩
  · cases h
theorem os_ne (hu : X.A.units + 64 < cLine) : OpS X (compareOp .NotEq) dNe := by
  have h : OpS X (compareOp .NotEq) (dOr (fun a b => dNot (dEqS a b)) fun a b => dNot (dEqP a b)) := by
    refine OpS.or ⟨_, op_ne, fun I H a b x y d Q l e rx ry k => ?_⟩ ⟨_, op_neD hu, fun I H a b x y d Q l e rx ry k => ?_⟩
    · obtain ⟨q, e0, rfl⟩ := dNot_some e
      obtain ⟨v, w, e1, e2, hs, e3⟩ := dEqS_some e0
      cases e3
      rw [scV_rel e1 rx, scV_rel e2 ry]
      exact ⟨hs, k I H _ (Ex.refl l) (R_bl.mpr rfl)⟩
    · obtain ⟨q, e0, rfl⟩ := dNot_some e
      obtain ⟨v, w, e1, e2, hs, ht, e3⟩ := dEqP_some e0
      cases e3
      exact ⟨v, w, toPy_dp l a v x e1 rx, toPy_dp l b w y e2 ry, hs, ht, k I H _ (Ex.refl l) (R_bl.mpr rfl)⟩
  refine h.eq fun a b => ?_
  simp only [dNe, dEq, dOr]
  cases h1 : dEqS a b with
  | none => cases dEqP a b <;> rfl
  | some d =>
    obtain ⟨_, _, _, _, _, rfl⟩ := dEqS_some h1
    rfl
def isNon : D → Bool
  | .non => true
  | _ => false
def dIsN : D → D → Option D
  | a, .non => some (.bl (isNon a))
  | _, _ => none
theorem isN_rel {K : PySem.W.Frag} {I : Hp} {d : D} {v : V} (r : R K I d v) : decide (v = .non) = isNon d := by
  cases d with
  | non => rw [R_non.mp r]; rfl
  | bl => rw [R_bl.mp r]; rfl
  | int => rw [R_int.mp r]; rfl
  | str => rw [R_str.mp r]; rfl
  | ty => rw [R_ty.mp r]; rfl
  | cls => rw [R_cls.mp r]; rfl
  | tup => obtain ⟨_, _, rfl, _⟩ := R_tup.mp r; rfl
  | lst => obtain ⟨_, _, rfl, _⟩ := R_lst.mp r; rfl
  | ins => obtain ⟨_, _, _, rfl, _⟩ := R_ins.mp r; rfl
theorem os_isN : OpS X (compareOp .Is) dIsN := by
  refine ⟨_, op_isN, fun I H a b x y d Q l e rx ry k => ?_⟩
  cases b with
  | non =>
    cases e
    refine ⟨R_non.mp ry, ?_⟩
    rw [isN_rel rx]
    exact k I H _ (Ex.refl l) (R_bl.mpr rfl)
  | _ => cases e
def dNotN : D → D → Option D
  | a, .non => some (.bl (!isNon a))
  | _, _ => none
theorem os_notN : OpS X (compareOp .IsNot) dNotN := by
  refine ⟨_, op_notN, fun I H a b x y d Q l e rx ry k => ?_⟩
  cases b with
  | non =>
    cases e
    refine ⟨R_non.mp ry, ?_⟩
    rw [isN_rel rx]
    exact k I H _ (Ex.refl l) (R_bl.mpr rfl)
  | _ => cases e
end
end FL
set_option Elab.async false
set_option linter.all false
set_option maxRecDepth 100000
namespace FL
open PySem
open PySem.Spec
open L2
section
variable {X : Cx} {W : WX} {a b c e : Expr} {pos : Pos}
def mChain (g g' : D → D → Option D) (ca cb cc : M D) : M D := ca.bind fun x => cb.bind fun y => (M.opt (g x y)).bind fun z => match z with
  | .bl true => cc.bind fun w => M.opt (g' y w)
  | .bl false => M.ret (.bl false)
  | _ => M.fail
theorem sim_chain {K : PySem.W.Frag} {g g' : D → D → Option D} {r r' : R2} {ta tb tc : TE} {ca cb cc : M D} (hg : ∀ (I H : Hp) (a b : D) (x y : V) (d : D) (Q : VK), Le I H → g a b = some d → R K I a x → R K I b y → (∀ I' H' v, Ex I H I' H' → R K I' d v → Q v H') → r x y H Q)
    (hg' : ∀ (I H : Hp) (a b : D) (x y : V) (d : D) (Q : VK), Le I H → g' a b = some d → R K I a x → R K I b y → (∀ I' H' v, Ex I H I' H' → R K I' d v → Q v H') → r' x y H Q)
    (sa : SimE K W ta ca) (sb : SimE K W tb cb) (sc : SimE K W tc cc) : SimE K W (tChain r r' ta tb tc) (mChain g g' ca cb cc) := fun σ ev I H Q rel h => by
  refine sa σ ev I H _ rel ((Post.bind h).imp fun x ev1 I1 H1 s1 r1 h1 vx rx => ?_)
  refine sb σ ev1 I1 H1 _ r1 ((Post.bind h1).imp fun y ev2 I2 H2 s2 r2 h2 vy ry => ?_)
  obtain ⟨d, e, k⟩ := Post.opt (Post.bind h2)
  refine hg I2 H2 x y vx vy d _ r2.sub e (R.mono s2.le _ _ rx) ry fun I3 H3 v ex rv => ?_
  have h3 := k I3 H3 ex.step (r2.ex ex)
  have r3 := r2.ex ex
  cases d with
  | bl q =>
    refine ⟨q, R_bl.mp rv, ?_⟩
    cases q with
    | true =>
      rw [if_pos rfl]
      refine sc σ ev2 I3 H3 _ r3 ((Post.bind h3).imp fun w ev4 I4 H4 s4 r4 h4 vw rw' => ?_)
      obtain ⟨d, e, k⟩ := Post.opt h4
      exact hg' I4 H4 y w vy vw d Q r4.sub e (R.mono s4.le _ _ (R.mono ex.le _ _ ry)) rw' fun I' H' v ex rv => k I' H' ex.step (r4.ex ex) v rv
    | false =>
      rw [if_neg Bool.false_ne_true]
      exact Post.ret r3 h3 _ (R_bl.mpr rfl)
  | _ => exact h3.elim
theorem se_chain {op op' : CmpOp} {g g' : D → D → Option D} {ca cb cc : M D} (ho : OpS X (compareOp op) g) (ho' : OpS X (compareOp op') g') (ha : SE X W a ca) (hb : SE X W b cb) (hc : SE X W c cc)
    (hm : lastMarks [op, op'] [b, c] = false) : SE X W (.Compare a [op, op'] [b, c] pos) (mChain g g' ca cb cc) := by
  obtain ⟨r, ho, hg⟩ := ho
  obtain ⟨r', ho', hg'⟩ := ho'
  obtain ⟨ta, pa, sa⟩ := ha
  obtain ⟨tb, pb, sb⟩ := hb
  obtain ⟨tc, pc, sc⟩ := hc
  exact ⟨_, pe_chain ho ho' pa pb pc hm, sim_chain hg hg' sa sb sc⟩
def mAnd (ca cb : M D) : M D := ca.bind fun x => match x with
  | .bl true => cb
  | .bl false => M.ret (.bl false)
  | _ => M.fail
def mOr (ca cb : M D) : M D := ca.bind fun x => match x with
  | .bl true => M.ret (.bl true)
  | .bl false => cb
  | _ => M.fail
def mNot (ca : M D) : M D := ca.bind fun x => match x with
  | .bl q => M.ret (.bl (!q))
  | _ => M.fail
theorem se_and {rest : List Expr} {ca cb : M D} (ha : SE X W a ca) (hb : SE X W (.BoolOp .And (b :: rest) pos) cb) : SE X W (.BoolOp .And (a :: b :: rest) pos) (mAnd ca cb) := by
  obtain ⟨ta, pa, sa⟩ := ha
  obtain ⟨tb, pb, sb⟩ := hb
  refine ⟨_, pe_and pa pb, fun σ ev I H Q rel h => ?_⟩
  refine sa σ ev I H _ rel ((Post.bind h).imp fun x ev1 I1 H1 s1 r1 h1 vx rx => ?_)
  cases x with
  | bl q =>
    refine ⟨q, R_bl.mp rx, ?_⟩
    cases q with
    | true => rw [if_pos rfl]; exact sb σ ev1 I1 H1 Q r1 h1
    | false => rw [if_neg Bool.false_ne_true]; exact Post.ret r1 h1 _ (R_bl.mpr rfl)
  | _ => exact h1.elim
theorem se_or {rest : List Expr} {ca cb : M D} (ha : SE X W a ca) (hb : SE X W (.BoolOp .Or (b :: rest) pos) cb) : SE X W (.BoolOp .Or (a :: b :: rest) pos) (mOr ca cb) := by
  obtain ⟨ta, pa, sa⟩ := ha
  obtain ⟨tb, pb, sb⟩ := hb
  refine ⟨_, pe_or pa pb, fun σ ev I H Q rel h => ?_⟩
  refine sa σ ev I H _ rel ((Post.bind h).imp fun x ev1 I1 H1 s1 r1 h1 vx rx => ?_)
  cases x with
  | bl q =>
    refine ⟨q, R_bl.mp rx, ?_⟩
    cases q with
    | true => rw [if_pos rfl]; exact Post.ret r1 h1 _ (R_bl.mpr rfl)
    | false => rw [if_neg Bool.false_ne_true]; exact sb σ ev1 I1 H1 Q r1 h1
  | _ => exact h1.elim
theorem se_one {op : BoolOp} {ca : M D} (ha : SE X W a ca) : SE X W (.BoolOp op [a] pos) ca := by
  obtain ⟨ta, pa, sa⟩ := ha
  exact ⟨_, pe_one pa, sa⟩
theorem se_not {ca : M D} (ha : SE X W a ca) : SE X W (.UnaryOp .Not a pos) (mNot ca) := by
  obtain ⟨ta, pa, sa⟩ := ha
  refine ⟨_, pe_not pa, fun σ ev I H Q rel h => ?_⟩
  refine sa σ ev I H _ rel ((Post.bind h).imp fun x ev1 I1 H1 s1 r1 h1 vx rx => ?_)
  cases x with
  | bl q => exact ⟨q, R_bl.mp rx, Post.ret r1 h1 _ (R_bl.mpr rfl)⟩
  | _ => exact h1.elim
/-- one operand in, one value out -/
def UnS (X : Cx) (f : Value → Sem Value) (g : D → Option D) : Prop := ∃ r, UnR X f r ∧
  ∀ (I H : Hp) (a : D) (x : V) (d : D) (Q : VK), Le I H → g a = some d → R X.K I a x → (∀ I' H' v, Ex I H I' H' → R X.K I' d v → Q v H') → r x H Q
def m1 (g : D → Option D) (ca : M D) : M D := ca.bind fun x => M.opt (g x)
theorem sim1 {K : PySem.W.Frag} {g : D → Option D} {r : V → Hp → VK → Prop} {ta : TE} {ca : M D} (hg : ∀ (I H : Hp) (a : D) (x : V) (d : D) (Q : VK), Le I H → g a = some d → R K I a x → (∀ I' H' v, Ex I H I' H' → R K I' d v → Q v H') → r x H Q)
    (sa : SimE K W ta ca) : SimE K W (tUn r ta) (m1 g ca) := fun σ ev I H Q rel h =>
  sa σ ev I H _ rel ((Post.bind h).imp fun x ev1 I1 H1 s1 r1 h1 vx rx => by
    obtain ⟨d, e, k⟩ := Post.opt h1
    exact hg I1 H1 x vx d Q r1.sub e rx fun I' H' v ex rv => k I' H' ex.step (r1.ex ex) v rv)
theorem se_un {op : UnaryOp} {g : D → Option D} {ca : M D} (ho : UnS X (unaryOp op) g) (ha : SE X W a ca) : SE X W (.UnaryOp op a pos) (m1 g ca) := by
  obtain ⟨r, ho, hg⟩ := ho
  obtain ⟨ta, pa, sa⟩ := ha
  exact ⟨_, pe_un ho pa, sim1 hg sa⟩
def dNeg : D → Option D
  | .int i => some (.int (-i))
  | _ => none
theorem us_neg : UnS X (unaryOp .USub) dNeg := by
  refine ⟨_, un_neg, fun I H a x d Q l e rx k => ?_⟩
  cases a with
  | int i => cases e; exact ⟨i, R_int.mp rx, k I H _ (Ex.refl l) (R_int.mpr rfl)⟩
  | _ => cases e
def mT (ca : M D) : M Bool := ca.bind fun x => match x with
  | .bl q => M.ret q
  | _ => M.fail
theorem st_val {ca : M D} (ha : SE X W a ca) (he : ∀ whole, isTrue a X.env whole = (do let v ← whole; standAt a.pos; holding [v] (truthy v)) := by intro _; rfl) : STt X W a (mT ca) := by
  obtain ⟨ta, pa, sa⟩ := ha
  refine ⟨_, pt_val pa he, fun σ ev I H Q rel h => ?_⟩
  refine sa σ ev I H _ rel ((Post.bind h).imp fun x ev1 I1 H1 s1 r1 h1 vx rx => ?_)
  cases x with
  | bl q => exact ⟨q, R_bl.mp rx, Post.ret (α := Bool) r1 h1⟩
  | _ => exact h1.elim
def dTru : D → Option Bool
  | .non => some false
  | .bl q => some q
  | .int i => some (i != 0)
  | .str y => if y.length ≤ sizeLine then some ((y.length : Int) != 0) else none
  | .lst xs => some (!xs.isEmpty)
  | .tup xs => some (!xs.isEmpty)
  | _ => none
theorem Rs.isEmpty {K : PySem.W.Frag} {I : Hp} {ds : List D} {vs : List V} (h : Rs K I ds vs) : vs.isEmpty = ds.isEmpty := by
  cases ds with
  | nil => rw [Rs_nil.mp h]; rfl
  | cons x xs => obtain ⟨v, r, rfl, _⟩ := Rs_cons.mp h; rfl
theorem dTru_ok {K : PySem.W.Frag} {I H : Hp} (l : Le I H) {d : D} {v : V} {q : Bool} (e : dTru d = some q) (r : R K I d v) : TruV K v H q := by
  cases d with
  | non => cases e; rw [R_non.mp r]; rfl
  | bl b => cases e; rw [R_bl.mp r]; rfl
  | int b => cases e; rw [R_int.mp r]; rfl
  | str b =>
    rw [R_str.mp r]
    simp only [dTru] at e
    split at e
    · rename_i hc
      cases e
      exact ⟨hc, rfl⟩
    · cases e
  | lst xs =>
    cases e
    obtain ⟨p, vs, rfl, h1, h2⟩ := R_lst.mp r
    exact .inl ⟨vs, l.sqL h1, by rw [h2.isEmpty]⟩
  | tup xs =>
    cases e
    obtain ⟨p, vs, rfl, h1, h2⟩ := R_tup.mp r
    exact .inr (.inl ⟨vs, l.sqT h1, by rw [h2.isEmpty]⟩)
  | _ => cases e
def mTru (ca : M D) : M Bool := ca.bind fun x => M.opt (dTru x)
theorem st_tru {ca : M D} (ha : SE X W a ca) (he : ∀ whole, isTrue a X.env whole = (do let v ← whole; standAt a.pos; holding [v] (truthy v)) := by intro _; rfl) : STt X W a (mTru ca) := by
  obtain ⟨ta, pa, sa⟩ := ha
  refine ⟨_, pt_truth pa he, fun σ ev I H Q rel h => ?_⟩
  refine sa σ ev I H _ rel ((Post.bind h).imp fun x ev1 I1 H1 s1 r1 h1 vx rx => ?_)
  obtain ⟨q, e, k⟩ := Post.opt h1
  exact ⟨q, dTru_ok r1.sub e rx, k I1 H1 (Step.refl ..) r1⟩
def mTNot (ca : M Bool) : M Bool := ca.bind fun q => M.ret (!q)
theorem st_not {ca : M Bool} (ha : STt X W a ca) : STt X W (.UnaryOp .Not a pos) (mTNot ca) := by
  obtain ⟨ta, pa, sa⟩ := ha
  refine ⟨_, pt_not pa, fun σ ev I H Q rel h => ?_⟩
  exact sa σ ev I H _ rel ((Post.bind h).imp fun x ev1 I1 H1 s1 r1 h1 => Post.ret (α := Bool) r1 h1)
theorem st_cmp {op : CmpOp} {g : D → D → Option D} {ca cb : M D} (ho : OpS X (compareOp op) g) (ha : SE X W a ca) (hb : SE X W b cb) (hm : behindInMarks op b = false) : STt X W (.Compare a [op] [b] pos) (mT (m2 g ca cb)) := by
  obtain ⟨r, ho, hg⟩ := ho
  obtain ⟨ta, pa, sa⟩ := ha
  obtain ⟨tb, pb, sb⟩ := hb
  refine ⟨_, pt_cmpR ho pa pb hm, fun σ ev I H Q rel h => ?_⟩
  refine sim2 (W := W) hg sa sb σ ev I H _ rel ((Post.bind h).imp fun x ev1 I1 H1 s1 r1 h1 vx rx => ?_)
  cases x with
  | bl q => exact ⟨q, R_bl.mp rx, Post.ret (α := Bool) r1 h1⟩
  | _ => exact h1.elim
theorem st_chain {op op' : CmpOp} {g g' : D → D → Option D} {ca cb cc : M D} (ho : OpS X (compareOp op) g) (ho' : OpS X (compareOp op') g') (ha : SE X W a ca) (hb : SE X W b cb) (hc : SE X W c cc)
    (hm : lastMarks [op, op'] [b, c] = false) : STt X W (.Compare a [op, op'] [b, c] pos) (mT (mChain g g' ca cb cc)) := by
  obtain ⟨r, ho, hg⟩ := ho
  obtain ⟨r', ho', hg'⟩ := ho'
  obtain ⟨ta, pa, sa⟩ := ha
  obtain ⟨tb, pb, sb⟩ := hb
  obtain ⟨tc, pc, sc⟩ := hc
  refine ⟨_, pt_chain ho ho' pa pb pc hm, fun σ ev I H Q rel h => ?_⟩
  refine sim_chain (W := W) hg hg' sa sb sc σ ev I H _ rel ((Post.bind h).imp fun x ev1 I1 H1 s1 r1 h1 vx rx => ?_)
  cases x with
  | bl q => exact ⟨q, R_bl.mp rx, Post.ret (α := Bool) r1 h1⟩
  | _ => exact h1.elim
def STw (X : Cx) (W : WX) (e : Expr) (c : M Bool) : Prop := ∃ t, PW X e t ∧ SimT X.K W t c
def mTAnd (ca cb : M Bool) : M Bool := ca.bind fun q => if q = true then cb else M.ret false
def mTOr (ca cb : M Bool) : M Bool := ca.bind fun q => if q = true then M.ret true else cb
theorem stw_and1 {ca : M Bool} (ha : STt X W a ca) : STw X W (.BoolOp .And [a] pos) ca := by
  obtain ⟨ta, pa, sa⟩ := ha
  exact ⟨_, pw_and1 pa, sa⟩
theorem stw_or1 {ca : M Bool} (ha : STt X W a ca) : STw X W (.BoolOp .Or [a] pos) ca := by
  obtain ⟨ta, pa, sa⟩ := ha
  exact ⟨_, pw_or1 pa, sa⟩
theorem stw_and {rest : List Expr} {ca cb : M Bool} (ha : STt X W a ca) (hb : STw X W (.BoolOp .And (b :: rest) pos) cb) : STw X W (.BoolOp .And (a :: b :: rest) pos) (mTAnd ca cb) := by
  obtain ⟨ta, pa, sa⟩ := ha
  obtain ⟨tb, pb, sb⟩ := hb
  refine ⟨_, pw_and pa pb, fun σ ev I H Q rel h => ?_⟩
  refine sa σ ev I H _ rel ((Post.bind h).imp fun q ev1 I1 H1 s1 r1 h1 => ?_)
  cases q with
  | true => exact sb σ ev1 I1 H1 Q r1 h1
  | false => exact Post.ret (α := Bool) r1 h1
theorem stw_or {rest : List Expr} {ca cb : M Bool} (ha : STt X W a ca) (hb : STw X W (.BoolOp .Or (b :: rest) pos) cb) : STw X W (.BoolOp .Or (a :: b :: rest) pos) (mTOr ca cb) := by
  obtain ⟨ta, pa, sa⟩ := ha
  obtain ⟨tb, pb, sb⟩ := hb
  refine ⟨_, pw_or pa pb, fun σ ev I H Q rel h => ?_⟩
  refine sa σ ev I H _ rel ((Post.bind h).imp fun q ev1 I1 H1 s1 r1 h1 => ?_)
  cases q with
  | true => exact Post.ret (α := Bool) r1 h1
  | false => exact sb σ ev1 I1 H1 Q r1 h1
theorem st_w {ca : M Bool} (h : STw X W e ca) : STt X W e ca := by
  obtain ⟨t, p, s⟩ := h
  exact ⟨t, p.pt, s⟩
def mIf {α : Type} (ct : M Bool) (ca cb : M α) : M α := ct.bind fun q => if q = true then ca else cb
theorem se_if {ct : M Bool} {ca cb : M D} (hc : STt X W c ct) (ha : SE X W a ca) (hb : SE X W b cb) : SE X W (.IfExp c a b pos) (mIf ct ca cb) := by
  obtain ⟨tc, pc, sc⟩ := hc
  obtain ⟨ta, pa, sa⟩ := ha
  obtain ⟨tb, pb, sb⟩ := hb
  refine ⟨_, pe_ifExp pc pa pb, fun σ ev I H Q rel h => ?_⟩
  refine sc σ ev I H _ rel ((Post.bind h).imp fun q ev1 I1 H1 s1 r1 h1 => ?_)
  cases q with
  | true => exact sa σ ev1 I1 H1 Q r1 h1
  | false => exact sb σ ev1 I1 H1 Q r1 h1
def mNil : M (List D) := M.ret []
def mCons (ca : M D) (cr : M (List D)) : M (List D) := ca.bind fun x => cr.bind fun xs => M.ret (x :: xs)
theorem sa_nil : SA X W [] mNil := ⟨_, pa_nil, fun σ ev I H Q rel h => Post.ret rel h _ (Rs_nil.mpr rfl)⟩
theorem sa_cons {es : List Expr} {ca : M D} {cr : M (List D)} (ha : SE X W e ca) (hr : SA X W es cr) (hs : starEach (e :: es) X.env = (false, eval e X.env) :: starEach es X.env := by rfl) : SA X W (e :: es) (mCons ca cr) := by
  obtain ⟨ta, pa, sa⟩ := ha
  obtain ⟨tr, pr, sr⟩ := hr
  refine ⟨_, pa_cons pa pr hs, fun σ ev I H Q rel h => ?_⟩
  refine sa σ ev I H _ rel ((Post.bind h).imp fun x ev1 I1 H1 s1 r1 h1 vx rx => ?_)
  refine sr σ ev1 I1 H1 _ r1 ((Post.bind h1).imp fun xs ev2 I2 H2 s2 r2 h2 vs rs => ?_)
  exact Post.ret r2 h2 _ (Rs_cons.mpr ⟨_, _, rfl, R.mono s2.le _ _ rx, rs⟩)
def mTup (ca : M (List D)) : M D := ca.bind fun ds => M.opt (if ds.length ≤ sizeLine then some (.tup ds) else none)
theorem se_tup {es : List Expr} {x1} {ca : M (List D)} (ha : SA X W es ca) : SE X W (.Tuple es x1 pos) (mTup ca) := by
  obtain ⟨ta, pa, sa⟩ := ha
  refine ⟨_, pe_tup pa, fun σ ev I H Q rel h => ?_⟩
  refine sa σ ev I H _ rel ((Post.bind h).imp fun ds ev1 I1 H1 s1 r1 h1 vs rs => ?_)
  obtain ⟨d, e, k⟩ := Post.opt h1
  split at e
  · rename_i hz
    cases e
    refine ⟨by rw [← rs.length]; exact hz, fun p hp => ?_⟩
    have ex := Ex.alloc (o := HO.tup vs) r1.sub hp
    exact k _ _ ex.step (r1.ex ex) _ (R_tup.mpr ⟨p, vs, rfl, SqT.of upd_same, Rs.mono ex.le _ _ rs⟩)
  · cases e
/-- a new mutable thing: where it lies is told, and that nobody else has it -/
def RF (K : PySem.W.Frag) (σ : St) (H : Hp) (Q : VK) : Cell → Ev → Hp → Hp → Prop := fun c ev' I' H' => ∀ p, H p = none → I' p = none → ¬ Own σ ev' p → CellAt K I' H' p c → Q (.ref p) H'
def SEF (X : Cx) (W : WX) (e : Expr) (c : M Cell) : Prop := ∃ t, PE X e t ∧ ∀ (σ : St) (ev : Ev) (I H : Hp) (Q : VK), Rel X.K σ ev I H → Post X.K W c σ ev I H (RF X.K σ H Q) → t σ H Q
theorem Rel.fresh {K : PySem.W.Frag} {σ : St} {ev : Ev} {I H : Hp} (r : Rel K σ ev I H) {p : Addr} (h : H p = none) : I p = none ∧ ¬ Own σ ev p := by
  refine ⟨?_, ?_⟩
  · cases e : I p with
    | none => rfl
    | some o => rw [r.sub _ _ e] at h; cases h
  · rintro ⟨i, s, e, hc, hv⟩
    obtain ⟨q, c, h1, _, h3, _⟩ := r.cell e hc
    rw [hv] at h1
    cases h1
    exact h3.there h
def mLst (ca : M (List D)) : M Cell := ca.bind fun ds => M.opt (if ds.length ≤ sizeLine then some (.lst ds) else none)
theorem sef_lst {es : List Expr} {ca : M (List D)} (ha : SA X W es ca) : SEF X W (.List es pos) (mLst ca) := by
  obtain ⟨ta, pa, sa⟩ := ha
  refine ⟨_, pe_lst pa, fun σ ev I H Q rel h => ?_⟩
  refine sa σ ev I H _ rel ((Post.bind h).imp fun ds ev1 I1 H1 s1 r1 h1 vs rs => ?_)
  obtain ⟨d, e, k⟩ := Post.opt h1
  split at e
  · rename_i hz
    cases e
    refine ⟨by rw [← rs.length]; exact hz, fun p hp => ?_⟩
    have ex := Ex.laid (o := HO.lst vs) r1.sub hp
    have h0 : H p = none := Classical.byContradiction fun z => s1.there p z hp
    exact k _ _ ex.step (r1.ex ex) p h0 (r1.fresh hp).1 (r1.fresh hp).2 ⟨vs, upd_same, rs⟩
  · cases e
/-- from now on it is data -/
def fz : Cell → D
  | .lst xs => .lst xs
  | .ins C ks fs => .ins C ks fs
def mFz (c : M Cell) : M D := c.bind fun x => M.ret (fz x)
theorem freeze {K : PySem.W.Frag} {σ : St} {ev ev' : Ev} {I H I' H' : Hp} {p : Addr} {c : Cell} (s : Step σ ev I H σ ev' I' H') (r : Rel K σ ev' I' H') (h0 : H p = none ∨ LOwn σ ev p) (h1 : I' p = none) (h2 : ¬ Own σ ev' p) (hc : CellAt K I' H' p c) :
    ∃ I'', Step σ ev I H σ ev' I'' H' ∧ Rel K σ ev' I'' H' ∧ R K I'' (fz c) (.ref p) := by
  obtain ⟨o, e, hr⟩ : ∃ o, H' p = some o ∧ ∀ I'', Le I' I'' → I'' p = some o → R K I'' (fz c) (.ref p) := by
    cases c with
    | lst xs => obtain ⟨vs, e, rs⟩ := hc; exact ⟨_, e, fun I'' l q => R_lst.mpr ⟨p, vs, rfl, SqL.of q, Rs.mono l _ _ rs⟩⟩
    | ins C ks fs => obtain ⟨dx, vs, e, n, rs⟩ := hc; exact ⟨_, e, fun I'' l q => R_ins.mpr ⟨p, dx, vs, rfl, q, n, Rs.mono l _ _ rs⟩⟩
  have le : Le I' (upd I' p o) := fun a u q => by
    rw [upd_ne (ne_of_none q h1)]
    exact q
  refine ⟨upd I' p o, ⟨s.keep, s.there, s.le.trans le, fun a q1 q2 q3 => ?_, s.own, s.lown, s.bor⟩, ⟨r.len, fun a u q => ?_, fun i t q => ?_, r.sep⟩, hr _ le upd_same⟩
  · have hne : a ≠ p := fun z => by
      subst z
      rcases h0 with h0 | h0
      · exact q1 h0
      · exact q3 h0
    rw [upd_ne hne]
    exact s.new a q1 q2 q3
  · by_cases hp : a = p
    · subst hp
      rw [upd_same] at q
      cases q
      exact e
    · rw [upd_ne hp] at q
      exact r.sub a u q
  · obtain ⟨v, q1, q2⟩ := r.slot i t q
    refine ⟨v, q1, ?_⟩
    have cell : ∀ c' p', t.isCell = true → v = .ref p' → I' p' = none → CellAt K I' H' p' c' → (upd I' p o) p' = none ∧ CellAt K (upd I' p o) H' p' c' := fun c' p' hk hv q3 q4 => by
      have hne : p' ≠ p := fun z => h2 ⟨i, t, q, hk, by rw [q1, hv, z]⟩
      exact ⟨by rw [upd_ne hne]; exact q3, q4.mono le fun _ z => z⟩
    cases t with
    | d d => exact R.mono le _ _ q2
    | own c' => obtain ⟨p', hv, q3, q4⟩ := q2; exact ⟨p', hv, cell c' p' rfl hv q3 q4⟩
    | bor c' => obtain ⟨p', hv, q3, q4⟩ := q2; exact ⟨p', hv, cell c' p' rfl hv q3 q4⟩
theorem Post.fz {K : PySem.W.Frag} {ca : M Cell} {σ : St} {ev : Ev} {I H : Hp} {Q : VK} (h : Post K W (mFz ca) σ ev I H (RG K Q)) : Post K W ca σ ev I H (RF K σ H Q) := by
  unfold Post mFz M.bind at h
  unfold Post
  cases e : ca ev with
  | none => rw [e] at h; exact h
  | some o =>
    rw [e] at h
    cases o with
    | er x ev' => exact h
    | ok c ev' =>
      intro I' H' s r p h0 hI ho hc
      obtain ⟨I2, s2, r2, rr⟩ := freeze s r (.inl h0) hI ho hc
      exact h I2 H' s2 r2 _ rr
theorem se_fz {ca : M Cell} (h : SEF X W e ca) : SE X W e (mFz ca) := by
  obtain ⟨t, p, s⟩ := h
  exact ⟨t, p, fun σ ev I H Q rel h => s σ ev I H Q rel h.fz⟩
end
end FL
set_option Elab.async false
set_option linter.all false
set_option maxRecDepth 100000
namespace FL
open PySem
open PySem.Spec
open L2
/-- what a def hands back: data, or a new mutable thing -/
inductive RV where
  | d (d : D)
  | fr (c : Cell)
inductive FO where
  | ret (r : RV) (out : List SV)
  | raise (e : Err) (out : List SV)
/-- a def's mirror: from its arguments -/
abbrev FM := List SV → Option FO
def RVat (K : PySem.W.Frag) (H I' H' : Hp) : RV → V → Prop
  | .d d, v => R K I' d v
  | .fr c, v => ∃ p, v = .ref p ∧ H p = none ∧ I' p = none ∧ CellAt K I' H' p c
abbrev up {α : Type} (l : List α) : List (Option α) := l.map some
/-- the promise of a def whose mirror is m -/
def spF (K : PySem.W.Frag) (m : FM) : Sp := fun vs H Q E => ∃ (args : List SV) (I : Hp), Rel K (up vs) (up args) I H ∧ (∀ s ∈ args, s.isOwn = false) ∧
  match m args with
  | none => False
  | some (.ret r out) => ∀ v I' H', Step (up vs) (up args) I H (up vs) (up out) I' H' → Rel K (up vs) (up out) I' H' → RVat K H I' H' r v → Q v H'
  | some (.raise e out) => ∀ I' H' dd, Step (up vs) (up args) I H (up vs) (up out) I' H' → Rel K (up vs) (up out) I' H' → XD K I' H' dd e → E (.ref (cad K e.x)) (some dd) H'
inductive AR where
  | d (d : D)
  | sl (i : Nat)
def ArV (K : PySem.W.Frag) (I : Hp) (σ : St) : AR → V → Prop
  | .d d, v => R K I d v
  | .sl i, v => σ[i]? = some (some v)
def SimR (K : PySem.W.Frag) (W : WX) (t : TA) (c : M (List AR)) : Prop := ∀ (σ : St) (ev : Ev) (I H : Hp) (Q : List V → Hp → Prop), Rel K σ ev I H → Post K W c σ ev I H (fun ars _ I' H' => ∀ vs, Paired (ArV K I' σ) ars vs → Q vs H') → t σ H Q
def SR (X : Cx) (W : WX) (es : List Expr) (c : M (List AR)) : Prop := ∃ t, PA X es t ∧ SimR X.K W t c
def rNil : M (List AR) := M.ret []
def rCons (ca : M D) (cr : M (List AR)) : M (List AR) := ca.bind fun x => cr.bind fun xs => M.ret (.d x :: xs)
/-- a name: data, or a mutable thing that is lent -/
def mArV (i : Nat) : M AR := fun ev => match ev[i]? with
  | some (some (.d d)) => some (.ok (.d d) ev)
  | some (some (.own _)) => some (.ok (.sl i) ev)
  | some (some (.bor _)) => some (.ok (.sl i) ev)
  | _ => none
def rVar (i : Nat) (cr : M (List AR)) : M (List AR) := (mArV i).bind fun x => cr.bind fun xs => M.ret (x :: xs)
theorem ArV.mono {K : PySem.W.Frag} {I I' : Hp} {σ : St} (l : Le I I') {a : AR} {v : V} (h : ArV K I σ a v) : ArV K I' σ a v := by
  cases a with
  | d d => exact R.mono l _ _ h
  | sl i => exact h
section
variable {X : Cx} {W : WX} {e : Expr} {es : List Expr} {pos : Pos}
theorem sr_nil : SR X W [] rNil := ⟨_, pa_nil, fun σ ev I H Q rel h => Post.ret rel h _ .nil⟩
theorem sr_cons {ca : M D} {cr : M (List AR)} (ha : SE X W e ca) (hr : SR X W es cr) (hs : starEach (e :: es) X.env = (false, eval e X.env) :: starEach es X.env := by rfl) : SR X W (e :: es) (rCons ca cr) := by
  obtain ⟨ta, pa, sa⟩ := ha
  obtain ⟨tr, pr, sr⟩ := hr
  refine ⟨_, pa_cons pa pr hs, fun σ ev I H Q rel h => ?_⟩
  refine sa σ ev I H _ rel ((Post.bind h).imp fun x ev1 I1 H1 s1 r1 h1 vx rx => ?_)
  refine sr σ ev1 I1 H1 _ r1 ((Post.bind h1).imp fun xs ev2 I2 H2 s2 r2 h2 vs rs => ?_)
  exact Post.ret r2 h2 _ (.cons (show ArV X.K I2 σ (.d x) vx from R.mono s2.le _ _ rx) rs)
theorem sim_arv {K : PySem.W.Frag} (i : Nat) {σ : St} {ev : Ev} {I H : Hp} {Q : VK} (rel : Rel K σ ev I H) (h : Post K W (mArV i) σ ev I H fun a _ I' H' => ∀ v, ArV K I' σ a v → Q v H') : tVar i σ H Q := by
  unfold Post mArV at h
  split at h
  · exact h.elim
  · rename_i a ev' q
    split at q
    · rename_i d0 e0
      cases q
      obtain ⟨v, h1, h2⟩ := rel.slot i _ e0
      exact ⟨v, h1, h I H (Step.refl ..) rel v h2⟩
    · rename_i c0 e0
      cases q
      obtain ⟨v, h1, h2⟩ := rel.slot i _ e0
      exact ⟨v, h1, h I H (Step.refl ..) rel v h1⟩
    · rename_i c0 e0
      cases q
      obtain ⟨v, h1, h2⟩ := rel.slot i _ e0
      exact ⟨v, h1, h I H (Step.refl ..) rel v h1⟩
    · cases q
  · rename_i x ev' q
    split at q <;> cases q
theorem sr_var (i : Nat) {x : Str} {cr : M (List AR)} {p : Pos} (hN : X.N[i]? = some x) (hv : Vis X.env.scope x) (hr : SR X W es cr) (hs : starEach (.Name x p :: es) X.env = (false, eval (.Name x p) X.env) :: starEach es X.env := by rfl)
    (hd : (x == ("__debug__" : Str)) = false := by decide +kernel) (hcd : (x == ("__classdict__" : Str)) = false := by decide +kernel) : SR X W (.Name x p :: es) (rVar i cr) := by
  obtain ⟨tr, pr, sr⟩ := hr
  refine ⟨_, pa_cons (pe_var hN hv hd hcd) pr hs, fun σ ev I H Q rel h => ?_⟩
  refine sim_arv i rel ((Post.bind h).imp fun x ev1 I1 H1 s1 r1 h1 vx rx => ?_)
  refine sr σ ev1 I1 H1 _ r1 ((Post.bind h1).imp fun xs ev2 I2 H2 s2 r2 h2 vs rs => ?_)
  exact Post.ret r2 h2 _ (.cons (rx.mono s2.le) rs)
end
def arSV (ev : Ev) : AR → Option SV
  | .d d => some (.d d)
  | .sl i => match ev[i]? with
    | some (some (.own c)) => some (.bor c)
    | some (some (.bor c)) => some (.bor c)
    | _ => none
def arsSV (ev : Ev) : List AR → Option (List SV)
  | [] => some []
  | a :: r => match arSV ev a, arsSV ev r with
    | some s, some l => some (s :: l)
    | _, _ => none
def slotsOf : List AR → List Nat
  | [] => []
  | .d _ :: r => slotsOf r
  | .sl i :: r => i :: slotsOf r
def setCell (ev : Ev) (i : Nat) (c : Cell) : Ev := match ev[i]? with
  | some (some (.own _)) => ev.set i (some (.own c))
  | some (some (.bor _)) => ev.set i (some (.bor c))
  | _ => ev
def putB : List AR → List SV → Ev → Ev
  | .sl i :: ars, .bor c :: out, ev => putB ars out (setCell ev i c)
  | _ :: ars, _ :: out, ev => putB ars out ev
  | _, _, ev => ev
def kindTo (s : SV) (c : Cell) : SV := match s with
  | .own _ => .own c
  | .bor _ => .bor c
  | s => s
/-- the same kinds at the same places -/
def KE (ev ev' : Ev) : Prop := ev'.length = ev.length ∧ ∀ j : Nat, (∃ s c, ev[j]? = some (some s) ∧ s.isCell = true ∧ ev'[j]? = some (some (kindTo s c))) ∨ ev'[j]? = ev[j]?
theorem kindTo_kindTo (s : SV) (c c' : Cell) : kindTo (kindTo s c) c' = kindTo s c' := by cases s <;> rfl
theorem kindTo_cell (s : SV) (c : Cell) : (kindTo s c).isCell = s.isCell := by cases s <;> rfl
theorem kindTo_own (s : SV) (c : Cell) : (kindTo s c).isOwn = s.isOwn := by cases s <;> rfl
theorem KE.refl (ev : Ev) : KE ev ev := ⟨rfl, fun _ => .inr rfl⟩
theorem KE.trans {a b c : Ev} (h : KE a b) (g : KE b c) : KE a c := by
  refine ⟨g.1.trans h.1, fun j => ?_⟩
  rcases h.2 j with ⟨s, x, e1, e2, e3⟩ | e
  · rcases g.2 j with ⟨t, y, f1, f2, f3⟩ | f
    · rw [e3] at f1
      cases f1
      exact .inl ⟨s, y, e1, e2, by rw [f3, kindTo_kindTo]⟩
    · exact .inl ⟨s, x, e1, e2, by rw [f, e3]⟩
  · rcases g.2 j with ⟨t, y, f1, f2, f3⟩ | f
    · exact .inl ⟨t, y, by rw [← e, f1], f2, f3⟩
    · exact .inr (f.trans e)
theorem KE.cell {ev ev' : Ev} (h : KE ev ev') {j : Nat} {s : SV} (e : ev'[j]? = some (some s)) (hc : s.isCell = true) : ∃ t, ev[j]? = some (some t) ∧ t.isCell = true ∧ t.isOwn = s.isOwn := by
  rcases h.2 j with ⟨t, c, e1, e2, e3⟩ | q
  · rw [e] at e3
    cases e3
    exact ⟨t, e1, e2, (kindTo_own t c).symm⟩
  · exact ⟨s, by rw [← q, e], hc, rfl⟩
theorem KE.bor {ev ev' : Ev} (h : KE ev ev') {j : Nat} {c : Cell} (e : ev[j]? = some (some (.bor c))) : ∃ c', ev'[j]? = some (some (.bor c')) := by
  rcases h.2 j with ⟨t, x, e1, e2, e3⟩ | q
  · rw [e] at e1
    cases e1
    exact ⟨x, e3⟩
  · exact ⟨c, by rw [q, e]⟩
theorem setCell_at {ev : Ev} {i : Nat} {c : Cell} {s : SV} (e : ev[i]? = some (some s)) (hc : s.isCell = true) : (setCell ev i c)[i]? = some (some (kindTo s c)) := by
  have hi : i < ev.length := (List.getElem?_eq_some_iff.mp e).1
  unfold setCell
  cases s with
  | d d => cases hc
  | own x => rw [e]; simp [hi, kindTo]
  | bor x => rw [e]; simp [hi, kindTo]
theorem setCell_ne {ev : Ev} {i j : Nat} {c : Cell} (h : i ≠ j) : (setCell ev i c)[j]? = ev[j]? := by
  unfold setCell
  split
  · rw [List.getElem?_set_ne h]
  · rw [List.getElem?_set_ne h]
  · rfl
theorem setCell_ke (ev : Ev) (i : Nat) (c : Cell) : KE ev (setCell ev i c) := by
  refine ⟨?_, fun j => ?_⟩
  · unfold setCell
    split <;> simp
  · by_cases h : i = j
    · subst h
      cases e : ev[i]? with
      | none => right; unfold setCell; rw [e]; exact e
      | some o =>
        cases o with
        | none => right; unfold setCell; rw [e]; exact e
        | some s =>
          cases hc : s.isCell with
          | true => exact .inl ⟨s, c, rfl, hc, setCell_at e hc⟩
          | false =>
            cases s with
            | d d => right; unfold setCell; rw [e]; exact e
            | own x => cases hc
            | bor x => cases hc
    · exact .inr (setCell_ne h)
theorem putB_ke : ∀ (ars : List AR) (out : List SV) (ev : Ev), KE ev (putB ars out ev)
  | [], _, ev => by unfold putB; exact KE.refl ev
  | .d d :: ars, [], ev => by unfold putB; exact KE.refl ev
  | .sl i :: ars, [], ev => by unfold putB; exact KE.refl ev
  | .d d :: ars, s :: out, ev => by unfold putB; exact putB_ke ars out ev
  | .sl i :: ars, .d d :: out, ev => by unfold putB; exact putB_ke ars out ev
  | .sl i :: ars, .own c :: out, ev => by unfold putB; exact putB_ke ars out ev
  | .sl i :: ars, .bor c :: out, ev => by unfold putB; exact (setCell_ke ev i c).trans (putB_ke ars out _)
theorem putB_out : ∀ (ars : List AR) (out : List SV) (ev : Ev) (j : Nat), j ∉ slotsOf ars → (putB ars out ev)[j]? = ev[j]?
  | [], _, ev, j, _ => by unfold putB; rfl
  | .d d :: ars, [], ev, j, _ => by unfold putB; rfl
  | .sl i :: ars, [], ev, j, _ => by unfold putB; rfl
  | .d d :: ars, s :: out, ev, j, h => by unfold putB; exact putB_out ars out ev j (by unfold slotsOf at h; exact h)
  | .sl i :: ars, .d d :: out, ev, j, h => by unfold putB; exact putB_out ars out ev j (by unfold slotsOf at h; exact fun z => h (List.mem_cons_of_mem _ z))
  | .sl i :: ars, .own c :: out, ev, j, h => by unfold putB; exact putB_out ars out ev j (by unfold slotsOf at h; exact fun z => h (List.mem_cons_of_mem _ z))
  | .sl i :: ars, .bor c :: out, ev, j, h => by
    unfold slotsOf at h
    unfold putB
    rw [putB_out ars out _ j fun z => h (List.mem_cons_of_mem _ z)]
    exact setCell_ne fun z => h (by rw [z]; exact List.mem_cons_self ..)
theorem slots_mem : ∀ {ars : List AR} {i j : Nat}, ars[i]? = some (.sl j) → j ∈ slotsOf ars
  | [], i, j, h => by simp at h
  | a :: ars, 0, j, h => by
    have : a = .sl j := by simpa using h
    subst this
    exact List.mem_cons_self ..
  | a :: ars, i + 1, j, h => by
    have := slots_mem (ars := ars) (i := i) (j := j) (by simpa using h)
    cases a with
    | d d => exact this
    | sl k => exact List.mem_cons_of_mem _ this
theorem slots_inj : ∀ {ars : List AR} {i i' j : Nat}, (slotsOf ars).Nodup → ars[i]? = some (.sl j) → ars[i']? = some (.sl j) → i = i'
  | [], i, i', j, _, h, _ => by simp at h
  | a :: ars, 0, 0, j, _, _, _ => rfl
  | a :: ars, 0, i' + 1, j, n, h, g => by
    have e : a = .sl j := by simpa using h
    subst e
    unfold slotsOf at n
    exact absurd (slots_mem (i := i') (by simpa using g)) (List.nodup_cons.mp n).1
  | a :: ars, i + 1, 0, j, n, h, g => by
    have e : a = .sl j := by simpa using g
    subst e
    unfold slotsOf at n
    exact absurd (slots_mem (i := i) (by simpa using h)) (List.nodup_cons.mp n).1
  | a :: ars, i + 1, i' + 1, j, n, h, g => by
    have n' : (slotsOf ars).Nodup := by
      cases a with
      | d d => exact n
      | sl k => unfold slotsOf at n; exact (List.nodup_cons.mp n).2
    rw [slots_inj (ars := ars) (i := i) (i' := i') n' (by simpa using h) (by simpa using g)]
theorem putB_in : ∀ {ars : List AR} {out : List SV} {ev : Ev} {i j : Nat} {c : Cell} {s : SV}, (slotsOf ars).Nodup → ars[i]? = some (.sl j) → out[i]? = some (.bor c) → ev[j]? = some (some s) → s.isCell = true →
    (putB ars out ev)[j]? = some (some (kindTo s c))
  | [], _, _, i, j, c, s, _, h, _, _, _ => by simp at h
  | a :: ars, [], _, i, j, c, s, _, h, g, _, _ => by simp at g
  | a :: ars, o :: out, ev, 0, j, c, s, n, h, g, e, hc => by
    have e1 : a = .sl j := by simpa using h
    have e2 : o = .bor c := by simpa using g
    subst e1 e2
    unfold slotsOf at n
    unfold putB
    rw [putB_out _ _ _ _ (List.nodup_cons.mp n).1]
    exact setCell_at e hc
  | a :: ars, o :: out, ev, i + 1, j, c, s, n, h, g, e, hc => by
    have h' : ars[i]? = some (.sl j) := by simpa using h
    have g' : out[i]? = some (.bor c) := by simpa using g
    cases a with
    | d d => unfold putB; exact putB_in (i := i) (show (slotsOf ars).Nodup from n) h' g' e hc
    | sl k =>
      unfold slotsOf at n
      have n' := List.nodup_cons.mp n
      have hk : k ≠ j := fun z => n'.1 (by rw [z]; exact slots_mem h')
      cases o with
      | d d => unfold putB; exact putB_in (i := i) n'.2 h' g' e hc
      | own d => unfold putB; exact putB_in (i := i) n'.2 h' g' e hc
      | bor d => unfold putB; exact putB_in (i := i) n'.2 h' g' (by rw [setCell_ne hk]; exact e) hc
theorem arsSV_get {ev : Ev} : ∀ {ars : List AR} {args : List SV} {i : Nat} {s : SV}, arsSV ev ars = some args → args[i]? = some s → ∃ a, ars[i]? = some a ∧ arSV ev a = some s
  | [], args, i, s, h, e => by unfold arsSV at h; cases h; simp at e
  | a :: r, args, i, s, h, e => by
    unfold arsSV at h
    split at h
    · rename_i s0 l e1 e2
      cases h
      cases i with
      | zero =>
        have : s0 = s := by simpa using e
        subst this
        exact ⟨a, rfl, e1⟩
      | succ i =>
        obtain ⟨x, q1, q2⟩ := arsSV_get (i := i) (s := s) e2 (by simpa using e)
        exact ⟨x, by simpa using q1, q2⟩
    · cases h
theorem arsSV_len {ev : Ev} : ∀ {ars : List AR} {args : List SV}, arsSV ev ars = some args → args.length = ars.length
  | [], args, h => by unfold arsSV at h; cases h; rfl
  | a :: r, args, h => by
    unfold arsSV at h
    split at h
    · rename_i s0 l e1 e2
      cases h
      simp [arsSV_len e2]
    · cases h
theorem arsSV_own {ev : Ev} {ars : List AR} {args : List SV} (h : arsSV ev ars = some args) : ∀ s ∈ args, s.isOwn = false := fun s hs => by
  obtain ⟨i, hi⟩ := List.mem_iff_getElem?.mp hs
  obtain ⟨a, _, q⟩ := arsSV_get h hi
  cases a with
  | d d => cases q; rfl
  | sl j =>
    simp only [arSV] at q
    split at q <;> first | (cases q; rfl) | cases q
theorem Paired.get' {α β : Type} {F : α → β → Prop} : ∀ {l : List α} {m : List β} {i : Nat} {a : α}, Paired F l m → l[i]? = some a → ∃ b, m[i]? = some b ∧ F a b
  | _, _, i, a, .nil, e => by simp at e
  | _, _, 0, a, .cons r t, e => by
    have := Option.some.inj (by simpa using e)
    subst this
    exact ⟨_, rfl, r⟩
  | _, _, i + 1, a, .cons r t, e => by
    obtain ⟨b, h1, h2⟩ := Paired.get' (i := i) (a := a) t (by simpa using e)
    exact ⟨b, by simpa using h1, h2⟩
theorem Paired.len' {α β : Type} {F : α → β → Prop} : ∀ {l : List α} {m : List β}, Paired F l m → l.length = m.length
  | _, _, .nil => rfl
  | _, _, .cons _ t => by simp [Paired.len' t]
theorem up_get {α : Type} {l : List α} {i : Nat} {o : Option α} : (up l)[i]? = some o ↔ ∃ a, l[i]? = some a ∧ o = some a := by
  unfold up
  rw [List.getElem?_map]
  cases l[i]? with
  | none => simp
  | some a => simp [eq_comm]
end FL
set_option Elab.async false
set_option linter.all false
set_option maxRecDepth 100000
namespace FL
open PySem
open PySem.Spec
open L2
/-- what stands at the callee's i-th argument -/
theorem arg_at {K : PySem.W.Frag} {σ : St} {ev : Ev} {I H : Hp} {ars : List AR} {args : List SV} {vs : List V} {dds : List D} {dvs : List V} (r : Rel K σ ev I H) (ea : arsSV ev ars = some args) (p : Paired (ArV K I σ) ars vs) (rd : Rs K (fun _ => none) dds dvs)
    {i : Nat} {s : SV} (h : (args ++ dds.map SV.d)[i]? = some s) : (∃ d v, s = .d d ∧ (vs ++ dvs)[i]? = some v ∧ R K I d v) ∨
      ∃ j c t q, ars[i]? = some (.sl j) ∧ s = .bor c ∧ ev[j]? = some (some t) ∧ t.isCell = true ∧ σ[j]? = some (some (.ref q)) ∧ (vs ++ dvs)[i]? = some (.ref q) ∧ I q = none ∧ CellAt K I H q c := by
  have l1 := arsSV_len ea
  have l2 := Paired.len' p
  by_cases hi : i < args.length
  · rw [List.getElem?_append_left hi] at h
    obtain ⟨a, h1, h2⟩ := arsSV_get ea h
    obtain ⟨v, h3, h4⟩ := Paired.get' p h1
    have hv : (vs ++ dvs)[i]? = some v := by rw [List.getElem?_append_left (by omega)]; exact h3
    cases a with
    | d d => cases h2; exact .inl ⟨d, v, rfl, hv, h4⟩
    | sl j =>
      right
      simp only [arSV] at h2
      cases e : ev[j]? with
      | none => rw [e] at h2; cases h2
      | some o =>
        rw [e] at h2
        cases o with
        | none => cases h2
        | some t =>
          have hv' : σ[j]? = some (some v) := h4
          cases t with
          | d d => cases h2
          | own c =>
            cases h2
            obtain ⟨q, c', e1, e2, e3, e4⟩ := r.cell e rfl
            rw [hv'] at e1
            cases e1
            rcases e4 with e4 | e4 <;> cases e4
            exact ⟨j, c, _, q, h1, rfl, e, rfl, hv', hv, e2, e3⟩
          | bor c =>
            cases h2
            obtain ⟨q, c', e1, e2, e3, e4⟩ := r.cell e rfl
            rw [hv'] at e1
            cases e1
            rcases e4 with e4 | e4 <;> cases e4
            exact ⟨j, c, _, q, h1, rfl, e, rfl, hv', hv, e2, e3⟩
  · rw [List.getElem?_append_right (by omega), List.getElem?_map] at h
    cases e : dds[i - args.length]? with
    | none => rw [e] at h; cases h
    | some d =>
      rw [e] at h
      cases h
      obtain ⟨v, h1, h2⟩ := rd.get e
      refine .inl ⟨d, v, rfl, ?_, R.mono (fun _ _ z => by cases z) _ _ h2⟩
      rw [List.getElem?_append_right (by omega), ← l2, ← l1]
      exact h1
theorem call_rel {K : PySem.W.Frag} {σ : St} {ev : Ev} {I H : Hp} {ars : List AR} {args : List SV} {vs : List V} {dds : List D} {dvs : List V} (r : Rel K σ ev I H) (ea : arsSV ev ars = some args) (p : Paired (ArV K I σ) ars vs) (rd : Rs K (fun _ => none) dds dvs)
    (nd : (slotsOf ars).Nodup) : Rel K (up (vs ++ dvs)) (up (args ++ dds.map SV.d)) I H where
  len := by
    have l1 := arsSV_len ea
    have l2 := Paired.len' p
    have l3 := rd.length
    simp [up]
    omega
  sub := r.sub
  slot := fun i s e => by
    obtain ⟨s', h, q⟩ := up_get.mp e
    cases q
    rcases arg_at r ea p rd h with ⟨d, v, rfl, h1, h2⟩ | ⟨j, c, t, q, _, rfl, _, _, _, h1, h2, h3⟩
    · exact ⟨v, up_get.mpr ⟨v, h1, rfl⟩, h2⟩
    · exact ⟨_, up_get.mpr ⟨_, h1, rfl⟩, q, rfl, h2, h3⟩
  sep := fun i i' s t a e1 e2 c1 c2 g1 g2 => by
    obtain ⟨s', h, q⟩ := up_get.mp e1
    cases q
    obtain ⟨t', h', q⟩ := up_get.mp e2
    cases q
    obtain ⟨v1, g1, q⟩ := up_get.mp g1
    cases q
    obtain ⟨v2, g2, q⟩ := up_get.mp g2
    cases q
    rcases arg_at r ea p rd h with ⟨d, v, rfl, _, _⟩ | ⟨j, c, x, q, k1, rfl, k2, k3, k4, k5, _, _⟩
    · cases c1
    rcases arg_at r ea p rd h' with ⟨d, v, rfl, _, _⟩ | ⟨j', c', x', q', k1', rfl, k2', k3', k4', k5', _, _⟩
    · cases c2
    rw [g1] at k5
    cases k5
    rw [g2] at k5'
    cases k5'
    have := r.sep j j' _ _ _ k2 k2' k3 k3' k4 k4'
    subst this
    exact slots_inj nd k1 k1'
/-- a cell's list of places: those of the callee are ours -/
theorem call_own {K : PySem.W.Frag} {σ : St} {ev : Ev} {I H : Hp} {ars : List AR} {args : List SV} {vs : List V} {dds : List D} {dvs : List V} (r : Rel K σ ev I H) (ea : arsSV ev ars = some args) (p : Paired (ArV K I σ) ars vs) (rd : Rs K (fun _ => none) dds dvs)
    {a : Addr} (h : Own (up (vs ++ dvs)) (up (args ++ dds.map SV.d)) a) : Own σ ev a := by
  obtain ⟨i, s, e, hc, hv⟩ := h
  obtain ⟨s', h, q⟩ := up_get.mp e
  cases q
  obtain ⟨v, hv, q⟩ := up_get.mp hv
  cases q
  rcases arg_at r ea p rd h with ⟨d, v, rfl, _, _⟩ | ⟨j, c, x, q, k1, rfl, k2, k3, k4, k5, _, _⟩
  · cases hc
  · rw [hv] at k5
    cases k5
    exact ⟨j, x, k2, k3, k4⟩
theorem own_nodup {args : List SV} (h : ∀ s ∈ args, s.isOwn = false) {σ : St} {a : Addr} : ¬ LOwn σ (up args) a := by
  rintro ⟨i, s, e, ho, _⟩
  obtain ⟨s', h', q⟩ := up_get.mp e
  cases q
  rw [h _ (List.mem_of_getElem? h')] at ho
  cases ho
theorem app_own {args : List SV} (h : ∀ s ∈ args, s.isOwn = false) (dds : List D) : ∀ s ∈ args ++ dds.map SV.d, s.isOwn = false := fun s hs => by
  rcases List.mem_append.mp hs with hs | hs
  · exact h s hs
  · obtain ⟨d, _, rfl⟩ := List.mem_map.mp hs
    rfl
theorem slots_ex : ∀ {ars : List AR} {j : Nat}, j ∈ slotsOf ars → ∃ i : Nat, ars[i]? = some (AR.sl j)
  | [], j, h => by simp [slotsOf] at h
  | .d d :: ars, j, h => by
    obtain ⟨i, hi⟩ := slots_ex (ars := ars) (by unfold slotsOf at h; exact h)
    exact ⟨i + 1, by simpa using hi⟩
  | .sl k :: ars, j, h => by
    unfold slotsOf at h
    rcases List.mem_cons.mp h with rfl | h
    · exact ⟨0, rfl⟩
    · obtain ⟨i, hi⟩ := slots_ex h
      exact ⟨i + 1, by simpa using hi⟩
/-- behind the call: our frame -/
theorem call_back {K : PySem.W.Frag} {σ : St} {ev : Ev} {I H I' H' : Hp} {ars : List AR} {args out : List SV} {vs : List V} {dds : List D} {dvs : List V} (r : Rel K σ ev I H) (ea : arsSV ev ars = some args) (p : Paired (ArV K I σ) ars vs) (rd : Rs K (fun _ => none) dds dvs)
    (nd : (slotsOf ars).Nodup) (s : Step (up (vs ++ dvs)) (up (args ++ dds.map SV.d)) I H (up (vs ++ dvs)) (up out) I' H') (r' : Rel K (up (vs ++ dvs)) (up out) I' H') :
    Step σ ev I H σ (putB ars out ev) I' H' ∧ Rel K σ (putB ars out ev) I' H' := by
  have ke := putB_ke ars out ev
  have no := @own_nodup _ (app_own (arsSV_own ea) dds)
  have ownEq : ∀ a, Own σ (putB ars out ev) a → Own σ ev a := fun a ⟨j, t, e, hc, hv⟩ => by
    obtain ⟨t', e', hc', _⟩ := ke.cell e hc
    exact ⟨j, t', e', hc', hv⟩
  have lownEq : ∀ a, LOwn σ (putB ars out ev) a → LOwn σ ev a := fun a ⟨j, t, e, hc, hv⟩ => by
    obtain ⟨t', e', _, ho⟩ := ke.cell e (by cases t <;> first | rfl | (cases hc))
    exact ⟨j, t', e', ho.trans hc, hv⟩
  refine ⟨⟨fun a o h n => s.keep a o h fun w => n (call_own r ea p rd w), s.there, s.le, fun a h1 h2 _ => s.new a h1 h2 no, fun a w => .inl (ownEq a w), fun a w => .inl (lownEq a w), fun i c e => ⟨ke.bor e, rfl⟩⟩, ?_⟩
  refine ⟨by rw [ke.1]; exact r.len, r'.sub, fun j t e => ?_, fun i j s t a e1 e2 c1 c2 g1 g2 => ?_⟩
  · by_cases hj : j ∈ slotsOf ars
    · -- lent
      obtain ⟨i, hi⟩ := slots_ex hj
      have hl : i < args.length := by
        rw [arsSV_len ea]
        exact (List.getElem?_eq_some_iff.mp hi).1
      have ha : (args ++ dds.map SV.d)[i]? = some args[i] := by
        rw [List.getElem?_append_left hl]
        exact List.getElem?_eq_getElem hl
      rcases arg_at r ea p rd ha with ⟨d, v, e0, _, _⟩ | ⟨j', c, x, q, k1, k0, k2, k3, k4, k5, _, _⟩
      · exfalso
        obtain ⟨a, q1, q2⟩ := arsSV_get ea (show args[i]? = some args[i] from List.getElem?_eq_getElem hl)
        rw [hi] at q1
        cases q1
        rw [e0] at q2
        simp only [arSV] at q2
        split at q2 <;> cases q2
      · rw [hi] at k1
        cases k1
        obtain ⟨⟨c', b1⟩, b2⟩ := s.bor i c (up_get.mpr ⟨_, by rw [ha, k0], rfl⟩)
        obtain ⟨o, b1, b3⟩ := up_get.mp b1
        cases b3
        have put := putB_in nd hi b1 k2 k3
        rw [e] at put
        cases put
        obtain ⟨v, w1, w2⟩ := r'.slot i (.bor c') (up_get.mpr ⟨_, b1, rfl⟩)
        obtain ⟨v', w1, w3⟩ := up_get.mp w1
        cases w3
        rw [k5] at w1
        cases w1
        obtain ⟨q', hq, w3, w4⟩ := w2
        cases hq
        refine ⟨_, k4, ?_⟩
        cases x with
        | d d => cases k3
        | own d => exact ⟨q, rfl, w3, w4⟩
        | bor d => exact ⟨q, rfl, w3, w4⟩
    · rw [putB_out _ _ _ _ hj] at e
      obtain ⟨v, h1, h2⟩ := r.slot j t e
      refine ⟨v, h1, ?_⟩
      have cell : ∀ c q, t.isCell = true → v = .ref q → I q = none → CellAt K I H q c → I' q = none ∧ CellAt K I' H' q c := fun c q hk hv h3 h4 => by
        refine ⟨s.new q h4.there h3 no, h4.mono s.le fun o ho => s.keep q o ho fun w => ?_⟩
        obtain ⟨i, x, f1, f2, f3⟩ := w
        obtain ⟨x', f1, f4⟩ := up_get.mp f1
        cases f4
        obtain ⟨v', f3, f4⟩ := up_get.mp f3
        cases f4
        rcases arg_at r ea p rd f1 with ⟨d, v, rfl, _, _⟩ | ⟨j', c', y, q', k1, rfl, k2, k3, k4, k5, _, _⟩
        · cases f2
        · rw [f3] at k5
          cases k5
          have := r.sep j j' _ _ _ e k2 hk k3 (by rw [h1, hv]) k4
          subst this
          exact hj (slots_mem k1)
      cases t with
      | d d => exact R.mono s.le _ _ h2
      | own c => obtain ⟨q, hv, h3, h4⟩ := h2; exact ⟨q, hv, cell c q rfl hv h3 h4⟩
      | bor c => obtain ⟨q, hv, h3, h4⟩ := h2; exact ⟨q, hv, cell c q rfl hv h3 h4⟩
  · obtain ⟨s', e1', c1', _⟩ := ke.cell e1 c1
    obtain ⟨t', e2', c2', _⟩ := ke.cell e2 c2
    exact r.sep i j s' t' a e1' e2' c1' c2' g1 g2
def rvD : RV → D
  | .d d => d
  | .fr c => fz c
def callM {α : Type} (f : RV → Option α) (m : FM) (dds : List D) (ars : List AR) : M α := fun ev => match arsSV ev ars with
  | none => none
  | some args => if (slotsOf ars).Nodup then (match m (args ++ dds.map SV.d) with
    | none => none
    | some (.ret r out) => (f r).map fun a => .ok a (putB ars out ev)
    | some (.raise e out) => some (.er e (putB ars out ev))) else none
/-- f(..) as data -/
def mCall (m : FM) (dds : List D) (ca : M (List AR)) : M D := ca.bind fun ars => callM (fun r => some (rvD r)) m dds ars
def frC : RV → Option Cell
  | .fr c => some c
  | _ => none
/-- f(..), a new mutable thing -/
def mCallF (m : FM) (dds : List D) (ca : M (List AR)) : M Cell := ca.bind fun ars => callM frC m dds ars
/-- from the caller's word to the callee's promise -/
theorem sp_of {α : Type} {K : PySem.W.Frag} {W : WX} {f : RV → Option α} {m : FM} {dds : List D} {dvs : List V} {ars : List AR} {vs : List V} {σ : St} {ev : Ev} {I H : Hp} {G : α → Ev → Hp → Hp → Prop} {Q : VK} (r : Rel K σ ev I H) (h : Post K W (callM f m dds ars) σ ev I H G)
    (p : Paired (ArV K I σ) ars vs) (rd : Rs K (fun _ => none) dds dvs)
    (hq : ∀ rv a ev' I' H' v, f rv = some a → KE ev ev' → Step σ ev I H σ ev' I' H' → Rel K σ ev' I' H' → (∀ I'' , Step σ ev I H σ ev' I'' H' → Rel K σ ev' I'' H' → G a ev' I'' H') → RVat K H I' H' rv v → Q v H') : spF K m (vs ++ dvs) H Q (WE W σ) := by
  unfold Post callM at h
  cases ea : arsSV ev ars with
  | none => rw [ea] at h; exact h.elim
  | some args =>
    rw [ea] at h
    simp only at h
    by_cases nd : (slotsOf ars).Nodup
    · rw [if_pos nd] at h
      refine ⟨args ++ dds.map SV.d, I, call_rel r ea p rd nd, app_own (arsSV_own ea) dds, ?_⟩
      cases em : m (args ++ dds.map SV.d) with
      | none => rw [em] at h; exact h.elim
      | some o =>
        rw [em] at h
        cases o with
        | ret rv out =>
          simp only at h ⊢
          intro v I' H' s' r' rvv
          obtain ⟨s2, r2⟩ := call_back r ea p rd nd s' r'
          cases ef : f rv with
          | none => rw [ef] at h; exact h.elim
          | some a =>
            rw [ef] at h
            exact hq rv a _ I' H' v ef (putB_ke ..) s2 r2 (fun I'' s3 r3 => h I'' H' s3 r3) rvv
        | raise e out =>
          simp only at h ⊢
          intro I' H' dd s' r' xd
          obtain ⟨s2, r2⟩ := call_back r ea p rd nd s' r'
          exact h I' H' dd s2 r2 xd
    · rw [if_neg nd] at h
      exact h.elim
theorem KE.own {σ : St} {ev ev' : Ev} (ke : KE ev ev') {a : Addr} (h : Own σ ev' a) : Own σ ev a := by
  obtain ⟨j, t, e, hc, hv⟩ := h
  obtain ⟨t', e', hc', _⟩ := ke.cell e hc
  exact ⟨j, t', e', hc', hv⟩
theorem Rel.own_there {K : PySem.W.Frag} {σ : St} {ev : Ev} {I H : Hp} (r : Rel K σ ev I H) {p : Addr} (h : Own σ ev p) : H p ≠ none := fun z => (r.fresh z).2 h
theorem sp_data {K : PySem.W.Frag} {W : WX} {m : FM} {dds : List D} {dvs : List V} {ars : List AR} {vs : List V} {σ : St} {ev : Ev} {I H : Hp} {Q : VK} (r : Rel K σ ev I H) (h : Post K W (callM (fun r => some (rvD r)) m dds ars) σ ev I H (RG K Q))
    (p : Paired (ArV K I σ) ars vs) (rd : Rs K (fun _ => none) dds dvs) : spF K m (vs ++ dvs) H Q (WE W σ) :=
  sp_of r h p rd fun rv a ev' I' H' v ef ke s r' g rvv => by
    cases ef
    cases rv with
    | d d => exact g I' s r' v rvv
    | fr c =>
      obtain ⟨q, rfl, h0, h1, h2⟩ := rvv
      obtain ⟨I'', s2, r2, rr⟩ := freeze s r' (.inl h0) h1 (fun w => r.own_there (ke.own w) h0) h2
      exact g I'' s2 r2 _ rr
/-- a def of the text, by its mirror; dds: the defaults that fill up -/
def Dfn (P : Program) (w : World) (K : PySem.W.Frag) (mg : Str → Option Value) (base : Heap) (x : String) (k : Nat) (m : FM) (dds : List D) : Prop :=
  ∃ (f : Addr) (fd : FuncData) (ps : List Str) (dvs : List V) (ds : List Value), FnOk P w K mg base (L2.CX P w) k f fd ps (spF K m) ∧ mg (Str.ofString x) = some (.ref f) ∧ PySem.W.keepIn K (.ref f) = true ∧ Binds K fd ps ds ∧ Vals dvs ds ∧ Rs K (fun _ => none) dds dvs
theorem Dfn.mono {P : Program} {w : World} {K : PySem.W.Frag} {mg : Str → Option Value} {base : Heap} {x : String} {j k : Nat} {m : FM} {dds : List D} (h : Dfn P w K mg base x j m dds) (hk : j ≤ k) : Dfn P w K mg base x k m dds := by
  obtain ⟨f, fd, ps, dvs, ds, h1, h2⟩ := h
  exact ⟨f, fd, ps, dvs, ds, h1.mono hk, h2⟩
section
variable {X : Cx} {W : WX} {e : Expr} {es : List Expr} {pos p : Pos}
theorem se_call {x : String} {k : Nat} {m : FM} {dds : List D} {ca : M (List AR)} (F : Dfn X.prog X.w X.K X.mg X.base x k m dds) (hr : Room k X.A) (tk : Takes X W) (hg : Gl X (Str.ofString x)) (ha : SR X W (e :: es) ca)
    (hdb : (Str.ofString x == ("__debug__" : Str)) = false := by decide +kernel) (he : starEach (e :: es) X.env = (false, eval e X.env) :: starEach es X.env := by rfl) (hpl : (backTo pos (starEach es X.env)).any (·.1) = false := by rfl) :
    SE X W (.Call (.Name (Str.ofString x) p) (e :: es) [] pos) (mCall m dds ca) := by
  obtain ⟨f, fd, ps, dvs, ds, hF, hm, hk, hb, hd, rd⟩ := F
  obtain ⟨ta, pa, sa⟩ := ha
  refine ⟨_, pe_callSD (E := WE W) hF hr hg hm hk hb hd (passAt tk) pa hdb he hpl, fun σ ev I H Q rel h => ?_⟩
  exact sa σ ev I H _ rel ((Post.bind h).imp fun ars ev1 I1 H1 s1 r1 h1 vs pv => sp_data r1 h1 pv rd)
theorem sef_call {x : String} {k : Nat} {m : FM} {dds : List D} {ca : M (List AR)} (F : Dfn X.prog X.w X.K X.mg X.base x k m dds) (hr : Room k X.A) (tk : Takes X W) (hg : Gl X (Str.ofString x)) (ha : SR X W (e :: es) ca)
    (hdb : (Str.ofString x == ("__debug__" : Str)) = false := by decide +kernel) (he : starEach (e :: es) X.env = (false, eval e X.env) :: starEach es X.env := by rfl) (hpl : (backTo pos (starEach es X.env)).any (·.1) = false := by rfl) :
    SEF X W (.Call (.Name (Str.ofString x) p) (e :: es) [] pos) (mCallF m dds ca) := by
  obtain ⟨f, fd, ps, dvs, ds, hF, hm, hk, hb, hd, rd⟩ := F
  obtain ⟨ta, pa, sa⟩ := ha
  refine ⟨_, pe_callSD (E := WE W) hF hr hg hm hk hb hd (passAt tk) pa hdb he hpl, fun σ ev I H Q rel h => ?_⟩
  refine sa σ ev I H _ rel ((Post.bind h).imp fun ars ev1 I1 H1 s1 r1 h1 vs pv => sp_of r1 h1 pv rd fun rv a ev' I' H' v ef ke s r' g rvv => ?_)
  cases rv with
  | d d => cases ef
  | fr c =>
    cases ef
    obtain ⟨q, rfl, h0, h2, h3⟩ := rvv
    exact g I' s r' q (Classical.byContradiction fun z => s1.there q z h0) h2 (fun w => r1.own_there (ke.own w) h0) h3
end
end FL
set_option Elab.async false
set_option linter.all false
set_option maxRecDepth 100000
namespace FL
open PySem
open PySem.Spec
open L2
inductive OS where
  | nx (ev : Ev)
  | rt (r : RV) (ev : Ev)
  | bk (ev : Ev)
  | ct (ev : Ev)
  | er (e : Err) (ev : Ev)
abbrev MS := Ev → Option OS
def RVs (K : PySem.W.Frag) (σ : St) (ev : Ev) (H I' H' : Hp) : RV → V → Prop
  | .d d, v => R K I' d v
  | .fr c, v => ∃ p, v = .ref p ∧ (H p = none ∨ LOwn σ ev p) ∧ I' p = none ∧ CellAt K I' H' p c
def PostS (K : PySem.W.Frag) (W : WX) (c : MS) (σ : St) (ev : Ev) (I H : Hp) (D : Ends) : Prop :=
  match c ev with
  | none => False
  | some (.nx ev') => ∀ σ' I' H', Step σ ev I H σ' ev' I' H' → Rel K σ' ev' I' H' → D.nx σ' H'
  | some (.bk ev') => ∀ σ' I' H', Step σ ev I H σ' ev' I' H' → Rel K σ' ev' I' H' → D.bk σ' H'
  | some (.ct ev') => ∀ σ' I' H', Step σ ev I H σ' ev' I' H' → Rel K σ' ev' I' H' → D.ct σ' H'
  | some (.rt r ev') => ∀ σ' I' H' v, Step σ ev I H σ' ev' I' H' → Rel K σ' ev' I' H' → RVs K σ ev H I' H' r v → D.rt v H'
  | some (.er e ev') => ∀ σ' I' H' dd, Step σ ev I H σ' ev' I' H' → Rel K σ' ev' I' H' → XD K I' H' dd e → W (.ref (cad K e.x)) (some dd) σ' H'
def SimS (K : PySem.W.Frag) (W : WX) (t : TS) (c : MS) : Prop := ∀ (σ : St) (ev : Ev) (I H : Hp) (D : Ends), Rel K σ ev I H → PostS K W c σ ev I H D → t D σ H
def SS (X : Cx) (W : WX) (st : Stmt) (c : MS) : Prop := ∃ t, PS X st t ∧ SimS X.K W t c
def SB (X : Cx) (W : WX) (st : List Stmt) (c : MS) : Prop := ∃ t, PSs X st t ∧ SimS X.K W t c
/-- from a later point -/
theorem PostS.on {K : PySem.W.Frag} {W : WX} {c c' : MS} {σ σ1 : St} {ev ev1 : Ev} {I H I1 H1 : Hp} {D : Ends} (s : Step σ ev I H σ1 ev1 I1 H1) (e : c ev = c' ev1) (h : PostS K W c σ ev I H D) : PostS K W c' σ1 ev1 I1 H1 D := by
  unfold PostS at h ⊢
  rw [e] at h
  cases q : c' ev1 with
  | none => rw [q] at h; exact h
  | some o =>
    rw [q] at h
    cases o with
    | nx ev' => exact fun σ' I' H' s' => h σ' I' H' (s.trans s')
    | bk ev' => exact fun σ' I' H' s' => h σ' I' H' (s.trans s')
    | ct ev' => exact fun σ' I' H' s' => h σ' I' H' (s.trans s')
    | er x ev' => exact fun σ' I' H' dd s' => h σ' I' H' dd (s.trans s')
    | rt r ev' =>
      refine fun σ' I' H' v s' r' rv => h σ' I' H' v (s.trans s') r' ?_
      cases r with
      | d d => exact rv
      | fr c =>
        obtain ⟨p, e, h0, h1, h2⟩ := rv
        refine ⟨p, e, ?_, h1, h2⟩
        rcases h0 with h0 | h0
        · exact .inl (Classical.byContradiction fun z => s.there p z h0)
        · exact (s.lown p h0).symm
def sSeq (c1 c2 : MS) : MS := fun ev => match c1 ev with
  | some (.nx ev1) => c2 ev1
  | o => o
theorem PostS.seq {K : PySem.W.Frag} {W : WX} {c1 c2 : MS} {σ : St} {ev : Ev} {I H : Hp} {D : Ends} {nx : St → Hp → Prop} (h : PostS K W (sSeq c1 c2) σ ev I H D) (hn : ∀ σ1 ev1 I1 H1, Rel K σ1 ev1 I1 H1 → PostS K W c2 σ1 ev1 I1 H1 D → nx σ1 H1) :
    PostS K W c1 σ ev I H { D with nx := nx } := by
  have h0 := h
  unfold PostS sSeq at h
  unfold PostS
  cases q : c1 ev with
  | none => rw [q] at h; exact h
  | some o =>
    rw [q] at h
    cases o with
    | nx ev1 => exact fun σ1 I1 H1 s1 r1 => hn σ1 ev1 I1 H1 r1 (h0.on s1 (by unfold sSeq; rw [q]))
    | bk ev' => exact h
    | ct ev' => exact h
    | er x ev' => exact h
    | rt r ev' => exact h
/-- an expression's value goes on -/
def sE {α : Type} (ca : M α) (k : α → MS) : MS := fun ev => match ca ev with
  | none => none
  | some (.er e ev') => some (.er e ev')
  | some (.ok a ev') => k a ev'
theorem PostS.expr {α : Type} {K : PySem.W.Frag} {W : WX} {ca : M α} {k : α → MS} {σ : St} {ev : Ev} {I H : Hp} {D : Ends} (h : PostS K W (sE ca k) σ ev I H D) : Post K W ca σ ev I H fun a ev1 I1 H1 => PostS K W (k a) σ ev1 I1 H1 D := by
  have h0 := h
  unfold PostS sE at h
  unfold Post
  cases q : ca ev with
  | none => rw [q] at h; exact h
  | some o =>
    rw [q] at h
    cases o with
    | ok a ev1 => exact fun I1 H1 s1 r1 => h0.on s1 (by unfold sE; rw [q])
    | er x ev' => exact fun I' H' dd s r xd => h σ I' H' dd s r xd
theorem PostS.nx {K : PySem.W.Frag} {W : WX} {c : MS} {σ : St} {ev ev' : Ev} {I H : Hp} {D : Ends} (h : PostS K W c σ ev I H D) (e : c ev = some (.nx ev')) : ∀ σ' I' H', Step σ ev I H σ' ev' I' H' → Rel K σ' ev' I' H' → D.nx σ' H' := by
  unfold PostS at h
  rw [e] at h
  exact h
theorem PostS.rt {K : PySem.W.Frag} {W : WX} {c : MS} {σ : St} {ev ev' : Ev} {I H : Hp} {D : Ends} {r : RV} (h : PostS K W c σ ev I H D) (e : c ev = some (.rt r ev')) : ∀ σ' I' H' v, Step σ ev I H σ' ev' I' H' → Rel K σ' ev' I' H' → RVs K σ ev H I' H' r v → D.rt v H' := by
  unfold PostS at h
  rw [e] at h
  exact h
section
variable {X : Cx} {W : WX} {st : Stmt} {rest : List Stmt} {e : Expr} {pos : Pos}
theorem sb_nil : SB X W [] (fun ev => some (.nx ev)) := ⟨_, pss_nil, fun σ ev I H D rel h => h.nx rfl σ I H (Step.refl ..) rel⟩
theorem sb_cons {c1 c2 : MS} (h1 : SS X W st c1) (h2 : SB X W rest c2) : SB X W (st :: rest) (sSeq c1 c2) := by
  obtain ⟨t, p, s⟩ := h1
  obtain ⟨u, q, r⟩ := h2
  exact ⟨_, pss_cons p q, fun σ ev I H D rel h => s σ ev I H _ rel (h.seq fun σ1 ev1 I1 H1 r1 h1 => r σ1 ev1 I1 H1 D r1 h1)⟩
theorem sb_one {c1 : MS} (h1 : SS X W st c1) : SB X W [st] c1 := by
  obtain ⟨t, p, s⟩ := h1
  exact ⟨_, pss_one p, s⟩
/-- a slot gets data -/
def setD (i : Nat) (d : D) (ev : Ev) : Option Ev := match ev[i]? with
  | some (some (.bor _)) => none
  | _ => some (ev.set i (some (.d d)))
theorem setD_some {i : Nat} {d : D} {ev ev' : Ev} (h : setD i d ev = some ev') : ev' = ev.set i (some (.d d)) ∧ ∀ c, ev[i]? ≠ some (some (.bor c)) := by
  unfold setD at h
  split at h
  · cases h
  · rename_i hn
    cases h
    exact ⟨rfl, fun c z => hn c z⟩
theorem set_get {α : Type} {l : List α} {i j : Nat} {x y : α} (h : (l.set i x)[j]? = some y) : (i = j ∧ y = x) ∨ (i ≠ j ∧ l[j]? = some y) := by
  by_cases e : i = j
  · subst e
    by_cases hl : i < l.length
    · rw [List.getElem?_set_self hl] at h
      exact .inl ⟨rfl, (Option.some.inj h).symm⟩
    · rw [List.getElem?_eq_none (by simpa using hl)] at h
      cases h
  · rw [List.getElem?_set_ne e] at h
    exact .inr ⟨e, h⟩
theorem set_data {K : PySem.W.Frag} {σ : St} {ev ev' : Ev} {I H : Hp} {i : Nat} {d : D} {v : V} (r : Rel K σ ev I H) (e : setD i d ev = some ev') (rv : R K I d v) : Step σ ev I H (σ.set i (some v)) ev' I H ∧ Rel K (σ.set i (some v)) ev' I H := by
  obtain ⟨rfl, nb⟩ := setD_some e
  have own : ∀ (j : Nat) (s : SV), (ev.set i (some (.d d)))[j]? = some (some s) → s.isCell = true → i ≠ j ∧ ev[j]? = some (some s) := fun j s e hc => by
    rcases set_get e with ⟨_, q⟩ | q
    · cases q; cases hc
    · exact q
  have oc : ∀ s : SV, s.isOwn = true → s.isCell = true := fun s h => by cases s <;> first | rfl | cases h
  refine ⟨⟨fun a o h _ => h, fun _ h => h, Le.refl _, fun _ _ h _ => h, fun a ⟨j, s, e, hc, hv⟩ => ?_, fun a ⟨j, s, e, hc, hv⟩ => ?_, fun j c e => ?_⟩, ⟨by simp [r.len], r.sub, fun j s e => ?_, fun j k s t a e1 e2 c1 c2 g1 g2 => ?_⟩⟩
  · obtain ⟨hn, e'⟩ := own j s e hc
    rw [List.getElem?_set_ne hn] at hv
    exact .inl ⟨j, s, e', hc, hv⟩
  · obtain ⟨hn, e'⟩ := own j s e (oc s hc)
    rw [List.getElem?_set_ne hn] at hv
    exact .inl ⟨j, s, e', hc, hv⟩
  · have hn : i ≠ j := fun z => nb c (by rw [z]; exact e)
    exact ⟨⟨c, by rw [List.getElem?_set_ne hn]; exact e⟩, List.getElem?_set_ne hn⟩
  · rcases set_get e with ⟨rfl, q⟩ | ⟨hn, q⟩
    · cases q
      have hi : i < ev.length := by
        have := (List.getElem?_eq_some_iff.mp e).1
        simpa using this
      exact ⟨v, List.getElem?_set_self (by rw [← r.len]; exact hi), rv⟩
    · obtain ⟨w, h1, h2⟩ := r.slot j s q
      exact ⟨w, by rw [List.getElem?_set_ne hn]; exact h1, h2⟩
  · obtain ⟨n1, e1⟩ := own j s e1 c1
    obtain ⟨n2, e2⟩ := own k t e2 c2
    rw [List.getElem?_set_ne n1] at g1
    rw [List.getElem?_set_ne n2] at g2
    exact r.sep j k s t a e1 e2 c1 c2 g1 g2
def sOpt (f : Ev → Option Ev) : MS := fun ev => (f ev).map .nx
theorem PostS.opt {K : PySem.W.Frag} {W : WX} {f : Ev → Option Ev} {σ : St} {ev : Ev} {I H : Hp} {D : Ends} (h : PostS K W (sOpt f) σ ev I H D) : ∃ ev', f ev = some ev' ∧ ∀ σ' I' H', Step σ ev I H σ' ev' I' H' → Rel K σ' ev' I' H' → D.nx σ' H' := by
  unfold PostS sOpt at h
  cases e : f ev with
  | none => rw [e] at h; exact h.elim
  | some ev2 => rw [e] at h; exact ⟨ev2, rfl, h⟩
def sSet (i : Nat) (ca : M D) : MS := sE ca fun d => sOpt (setD i d)
theorem ss_set (i : Nat) {x : Str} {ca : M D} {p : Pos} (hN : X.N.Nodup) (hi : X.N[i]? = some x) (hx : Loc X.env.scope x) (hf : X.fn x = true ∨ X.env.scope.names.lookup x = some .local) (ha : SE X W e ca)
    (hs : swapsWithSole [.Name x p] e pos.line X.env = pure false := by rfl) (hw : swappedStores [.Name x p] e X.env = pure none := by rfl) (h1 : (assignEach [.Name x p] X.env).map (·.2) = [assign (.Name x p) X.env] := by rfl) : SS X W (.Assign [.Name x p] e pos) (sSet i ca) := by
  obtain ⟨ta, pa, sa⟩ := ha
  refine ⟨_, ps_asg pa (pg_name hN hi hx hf) hs hw h1, fun σ ev I H D rel h => ?_⟩
  refine sa σ ev I H _ rel (h.expr.imp fun d ev1 I1 H1 s1 r1 h1 v rv => ?_)
  obtain ⟨ev2, e, k⟩ := h1.opt
  obtain ⟨s2, r2⟩ := set_data r1 e rv
  exact k _ _ _ s2 r2
/-- a slot gets a new mutable thing -/
def setO (i : Nat) (c : Cell) (ev : Ev) : Option Ev := match ev[i]? with
  | some (some (.bor _)) => none
  | _ => some (ev.set i (some (.own c)))
theorem setO_some {i : Nat} {d : Cell} {ev ev' : Ev} (h : setO i d ev = some ev') : ev' = ev.set i (some (.own d)) ∧ ∀ c, ev[i]? ≠ some (some (.bor c)) := by
  unfold setO at h
  split at h
  · cases h
  · rename_i hn
    cases h
    exact ⟨rfl, fun c z => hn c z⟩
theorem set_cell {K : PySem.W.Frag} {σ σ0 : St} {ev ev' ev0 : Ev} {I H I0 H0 : Hp} {i : Nat} {c : Cell} {p : Addr} (s0 : Step σ0 ev0 I0 H0 σ ev I H) (r : Rel K σ ev I H) (e : setO i c ev = some ev') (h0 : H0 p = none) (hI : I p = none) (ho : ¬ Own σ ev p) (hc : CellAt K I H p c) :
    Step σ0 ev0 I0 H0 (σ.set i (some (.ref p))) ev' I H ∧ Rel K (σ.set i (some (.ref p))) ev' I H := by
  obtain ⟨rfl, nb⟩ := setO_some e
  have own : ∀ (j : Nat) (s : SV) (a : Addr), (ev.set i (some (.own c)))[j]? = some (some s) → s.isCell = true → (σ.set i (some (.ref p)))[j]? = some (some (.ref a)) → (i = j ∧ a = p ∧ s = .own c) ∨ (i ≠ j ∧ ev[j]? = some (some s) ∧ σ[j]? = some (some (.ref a))) := fun j s a e hc hv => by
    rcases set_get e with ⟨rfl, q⟩ | ⟨hn, q⟩
    · cases q
      rcases set_get hv with ⟨_, q⟩ | ⟨hn, _⟩
      · cases q; exact .inl ⟨rfl, rfl, rfl⟩
      · exact absurd rfl hn
    · rw [List.getElem?_set_ne hn] at hv
      exact .inr ⟨hn, q, hv⟩
  have oc : ∀ s : SV, s.isOwn = true → s.isCell = true := fun s h => by cases s <;> first | rfl | cases h
  refine ⟨⟨s0.keep, s0.there, s0.le, s0.new, fun a ⟨j, s, e, hc, hv⟩ => ?_, fun a ⟨j, s, e, hc, hv⟩ => ?_, fun j c' e => ?_⟩, ⟨by simp [r.len], r.sub, fun j s e => ?_, fun j k s t a e1 e2 c1 c2 g1 g2 => ?_⟩⟩
  · rcases own j s a e hc hv with ⟨_, rfl, _⟩ | ⟨_, q1, q2⟩
    · exact .inr h0
    · exact s0.own a ⟨j, s, q1, hc, q2⟩
  · rcases own j s a e (oc s hc) hv with ⟨_, rfl, _⟩ | ⟨_, q1, q2⟩
    · exact .inr h0
    · exact s0.lown a ⟨j, s, q1, hc, q2⟩
  · obtain ⟨⟨c1, e1⟩, e2⟩ := s0.bor j c' e
    have hn : i ≠ j := fun z => nb c1 (by rw [z]; exact e1)
    exact ⟨⟨c1, by rw [List.getElem?_set_ne hn]; exact e1⟩, by rw [List.getElem?_set_ne hn]; exact e2⟩
  · rcases set_get e with ⟨rfl, q⟩ | ⟨hn, q⟩
    · cases q
      have hi : i < ev.length := by
        have := (List.getElem?_eq_some_iff.mp e).1
        simpa using this
      exact ⟨_, List.getElem?_set_self (by rw [← r.len]; exact hi), p, rfl, hI, hc⟩
    · obtain ⟨w, h1, h2⟩ := r.slot j s q
      exact ⟨w, by rw [List.getElem?_set_ne hn]; exact h1, h2⟩
  · rcases own j s a e1 c1 g1 with ⟨rfl, rfl, _⟩ | ⟨n1, q1, q2⟩
    · rcases own k t a e2 c2 g2 with ⟨rfl, _, _⟩ | ⟨n2, q3, q4⟩
      · rfl
      · exact absurd ⟨k, t, q3, c2, q4⟩ ho
    · rcases own k t a e2 c2 g2 with ⟨rfl, rfl, _⟩ | ⟨n2, q3, q4⟩
      · exact absurd ⟨j, s, q1, c1, q2⟩ ho
      · exact r.sep j k s t a q1 q3 c1 c2 q2 q4
def sSetF (i : Nat) (ca : M Cell) : MS := sE ca fun c ev => (setO i c ev).map .nx
theorem ss_setF (i : Nat) {x : Str} {ca : M Cell} {p : Pos} (hN : X.N.Nodup) (hi : X.N[i]? = some x) (hx : Loc X.env.scope x) (hf : X.fn x = true ∨ X.env.scope.names.lookup x = some .local) (ha : SEF X W e ca)
    (hs : swapsWithSole [.Name x p] e pos.line X.env = pure false := by rfl) (hw : swappedStores [.Name x p] e X.env = pure none := by rfl) (h1 : (assignEach [.Name x p] X.env).map (·.2) = [assign (.Name x p) X.env] := by rfl) : SS X W (.Assign [.Name x p] e pos) (sSetF i ca) := by
  obtain ⟨ta, pa, sa⟩ := ha
  refine ⟨_, ps_asg pa (pg_name hN hi hx hf) hs hw h1, fun σ ev I H D rel h => ?_⟩
  refine sa σ ev I H _ rel ?_
  have h0 := h
  unfold PostS sSetF sE at h
  unfold Post
  cases q : ca ev with
  | none => rw [q] at h; exact h
  | some o =>
    rw [q] at h
    cases o with
    | er x ev' => exact fun I' H' dd s r xd => h σ I' H' dd s r xd
    | ok c ev1 =>
      intro I1 H1 s1 r1 p h2 h3 h4 h5
      simp only at h
      cases e : setO i c ev1 with
      | none => rw [e] at h; exact h.elim
      | some ev2 =>
        rw [e] at h
        obtain ⟨s2, r2⟩ := set_cell s1 r1 e h2 h3 h4 h5
        exact h _ _ _ s2 r2
def sRet (ca : M D) : MS := sE ca fun d ev => some (.rt (.d d) ev)
theorem ss_ret {ca : M D} (ha : SE X W e ca) : SS X W (.Return (some e) pos) (sRet ca) := by
  obtain ⟨ta, pa, sa⟩ := ha
  refine ⟨_, ps_ret pa, fun σ ev I H D rel h => ?_⟩
  exact sa σ ev I H _ rel (h.expr.imp fun d ev1 I1 H1 s1 r1 h1 v rv => h1.rt rfl σ I1 H1 v (Step.refl ..) r1 rv)
def sRetF (ca : M Cell) : MS := sE ca fun c ev => some (.rt (.fr c) ev)
theorem ss_retF {ca : M Cell} (ha : SEF X W e ca) : SS X W (.Return (some e) pos) (sRetF ca) := by
  obtain ⟨ta, pa, sa⟩ := ha
  refine ⟨_, ps_ret pa, fun σ ev I H D rel h => ?_⟩
  refine sa σ ev I H _ rel ?_
  unfold PostS sRetF sE at h
  unfold Post
  cases q : ca ev with
  | none => rw [q] at h; exact h
  | some o =>
    rw [q] at h
    cases o with
    | er x ev' => exact fun I' H' dd s r xd => h σ I' H' dd s r xd
    | ok c ev1 => exact fun I1 H1 s1 r1 p h2 h3 h4 h5 => h σ I1 H1 _ s1 r1 ⟨p, rfl, .inl h2, h3, h5⟩
/-- return of a name: data, or the frame's own mutable thing -/
def sRetV (i : Nat) : MS := fun ev => match ev[i]? with
  | some (some (.d d)) => some (.rt (.d d) ev)
  | some (some (.own c)) => some (.rt (.fr c) ev)
  | _ => none
theorem ss_retV (i : Nat) {x : Str} {p : Pos} (hN : X.N[i]? = some x) (hv : Vis X.env.scope x) (hd : (x == ("__debug__" : Str)) = false := by decide +kernel) (hcd : (x == ("__classdict__" : Str)) = false := by decide +kernel) : SS X W (.Return (some (.Name x p)) pos) (sRetV i) := by
  refine ⟨_, ps_ret (pe_var hN hv hd hcd), fun σ ev I H D rel h => ?_⟩
  unfold PostS sRetV at h
  cases e : ev[i]? with
  | none => rw [e] at h; exact h.elim
  | some o =>
    rw [e] at h
    cases o with
    | none => exact h.elim
    | some s =>
      obtain ⟨v, h1, h2⟩ := rel.slot i s e
      refine ⟨v, h1, ?_⟩
      cases s with
      | d d => exact h σ I H v (Step.refl ..) rel h2
      | own c =>
        obtain ⟨p, rfl, h3, h4⟩ := h2
        exact h σ I H _ (Step.refl ..) rel ⟨p, rfl, .inr ⟨i, _, e, rfl, h1⟩, h3, h4⟩
      | bor c => exact h.elim
theorem ss_retN : SS X W (.Return none pos) (fun ev => some (.rt (.d .non) ev)) := ⟨_, ps_retN, fun σ ev I H D rel h => h.rt rfl σ I H .non (Step.refl ..) rel (by show R X.K I .non .non; exact R_non.mpr rfl)⟩
def sExpr (ca : M D) : MS := sE ca fun _ ev => some (.nx ev)
theorem ss_expr {ca : M D} (ha : SE X W e ca) (hs : swapsWith e none pos.line X.env = pure false := by rfl) : SS X W (.Expr e pos) (sExpr ca) := by
  obtain ⟨ta, pa, sa⟩ := ha
  refine ⟨_, ps_expr pa hs, fun σ ev I H D rel h => ?_⟩
  refine sa σ ev I H _ rel ?_
  unfold PostS sExpr sE at h
  unfold Post
  cases q : ca ev with
  | none => rw [q] at h; exact h
  | some o =>
    rw [q] at h
    cases o with
    | er x ev' => exact fun I' H' dd s r xd => h σ I' H' dd s r xd
    | ok c ev1 => exact fun I1 H1 s1 r1 v _ => h σ I1 H1 s1 r1
theorem ss_pass : SS X W (.Pass pos) (fun ev => some (.nx ev)) := ⟨_, ps_pass, fun σ ev I H D rel h => h.nx rfl σ I H (Step.refl ..) rel⟩
theorem ss_break : SS X W (.Break pos) (fun ev => some (.bk ev)) := ⟨_, ps_break, fun σ ev I H D rel h => h σ I H (Step.refl ..) rel⟩
theorem ss_cont : SS X W (.Continue pos) (fun ev => some (.ct ev)) := ⟨_, ps_continue, fun σ ev I H D rel h => h σ I H (Step.refl ..) rel⟩
def sIf (ct : M Bool) (c1 c2 : MS) : MS := sE ct fun q => if q = true then c1 else c2
theorem ss_if {body orelse : List Stmt} {ct : M Bool} {c1 c2 : MS} (hc : STt X W e ct) (h1 : SB X W body c1) (h2 : SB X W orelse c2) : SS X W (.If e body orelse pos) (sIf ct c1 c2) := by
  obtain ⟨tc, pc, sc⟩ := hc
  obtain ⟨t1, p1, s1⟩ := h1
  obtain ⟨t2, p2, s2⟩ := h2
  refine ⟨_, ps_if pc p1 p2, fun σ ev I H D rel h => ?_⟩
  refine sc σ ev I H _ rel (h.expr.imp fun q ev1 I1 H1 st1 r1 h1 => ?_)
  cases q with
  | true => rw [if_pos rfl]; exact s1 σ ev1 I1 H1 D r1 h1
  | false => rw [if_neg Bool.false_ne_true]; exact s2 σ ev1 I1 H1 D r1 h1
end
end FL
set_option Elab.async false
set_option linter.all false
set_option maxRecDepth 100000
namespace FL
open PySem
open PySem.Spec
open L2
def outOf (s : SV) (o : Option SV) : SV := match s, o with
  | .bor _, some (.bor c) => .bor c
  | s, _ => s
def outs : List SV → Ev → List SV
  | [], _ => []
  | s :: r, [] => s :: outs r []
  | s :: r, o :: ev => outOf s o :: outs r ev
theorem outOf_none (s : SV) : outOf s none = s := by cases s <;> rfl
theorem outs_nil : ∀ (args : List SV), outs args [] = args
  | [] => rfl
  | s :: r => by unfold outs; rw [outs_nil r]
theorem outs_get : ∀ (args : List SV) (ev : Ev) (i : Nat), (outs args ev)[i]? = args[i]?.map fun s => outOf s (ev[i]?.join)
  | [], ev, i => by unfold outs; simp
  | s :: r, [], 0 => by unfold outs; simp [outOf_none]
  | s :: r, [], i + 1 => by
    unfold outs
    rw [outs_nil]
    simp only [List.getElem?_cons_succ, List.getElem?_nil, Option.join_none, outOf_none]
    cases r[i]? <;> rfl
  | s :: r, o :: ev, 0 => by unfold outs; simp
  | s :: r, o :: ev, i + 1 => by
    unfold outs
    simpa using outs_get r ev i
def mkF (n N : Nat) (body : MS) : FM := fun args => if args.length = n then (match body (up args ++ List.replicate (N - n) none) with
  | none => none
  | some (.nx ev) => some (.ret (.d .non) (outs args ev))
  | some (.rt r ev) => some (.ret r (outs args ev))
  | some (.er e ev) => some (.raise e (outs args ev))
  | _ => none) else none
theorem start_rel {K : PySem.W.Frag} {N : List Str} {vs : List V} {args : List SV} {I H : Hp} (r : Rel K (up vs) (up args) I H) : Rel K (L2.start N vs) (up args ++ List.replicate (N.length - args.length) none) I H := by
  have l0 : args.length = vs.length := by have := r.len; simpa [up] using this
  have g : ∀ (i : Nat) (s : SV), (up args ++ List.replicate (N.length - args.length) none)[i]? = some (some s) → (up args)[i]? = some (some s) ∧ i < args.length := fun i s e => by
    by_cases hi : i < args.length
    · rw [List.getElem?_append_left (by simpa [up] using hi)] at e
      exact ⟨e, hi⟩
    · rw [List.getElem?_append_right (by simpa [up] using hi), List.getElem?_replicate] at e
      split at e <;> cases e
  have v : ∀ i : Nat, i < args.length → (L2.start N vs)[i]? = (up vs)[i]? := fun i hi => by
    unfold L2.start
    rw [List.getElem?_append_left (by simp; omega)]
  refine ⟨by simp [L2.start, up, l0], r.sub, fun i s e => ?_, fun i j s t a e1 e2 c1 c2 g1 g2 => ?_⟩
  · obtain ⟨e', hi⟩ := g i s e
    obtain ⟨w, h1, h2⟩ := r.slot i s e'
    exact ⟨w, by rw [v i hi]; exact h1, h2⟩
  · obtain ⟨e1', h1⟩ := g i s e1
    obtain ⟨e2', h2⟩ := g j t e2
    rw [v i h1] at g1
    rw [v j h2] at g2
    exact r.sep i j s t a e1' e2' c1 c2 g1 g2
theorem fn_end {K : PySem.W.Frag} {N : List Str} {vs : List V} {args : List SV} {I H I' H' : Hp} {σ' : St} {ev' : Ev} (r : Rel K (up vs) (up args) I H) (no : ∀ s ∈ args, s.isOwn = false)
    (s : Step (L2.start N vs) (up args ++ List.replicate (N.length - args.length) none) I H σ' ev' I' H') (r' : Rel K σ' ev' I' H') :
    Step (up vs) (up args) I H (up vs) (up (outs args ev')) I' H' ∧ Rel K (up vs) (up (outs args ev')) I' H' := by
  have l0 : args.length = vs.length := by have := r.len; simpa [up] using this
  have g0 : ∀ (i : Nat) (s : SV), args[i]? = some s → (up args ++ List.replicate (N.length - args.length) none)[i]? = some (some s) ∧ (L2.start N vs)[i]? = (up vs)[i]? := fun i s e => by
    have hi : i < args.length := (List.getElem?_eq_some_iff.mp e).1
    refine ⟨?_, ?_⟩
    · rw [List.getElem?_append_left (by simpa [up] using hi)]
      exact up_get.mpr ⟨s, e, rfl⟩
    · unfold L2.start
      rw [List.getElem?_append_left (by simp; omega)]
  have gi : ∀ (i : Nat) (s : SV), (up args ++ List.replicate (N.length - args.length) none)[i]? = some (some s) → args[i]? = some s := fun i s e => by
    by_cases hi : i < args.length
    · rw [List.getElem?_append_left (by simpa [up] using hi)] at e
      obtain ⟨s', h, q⟩ := up_get.mp e
      cases q
      exact h
    · rw [List.getElem?_append_right (by simpa [up] using hi), List.getElem?_replicate] at e
      split at e <;> cases e
  have out : ∀ (i : Nat) (t : SV), (outs args ev')[i]? = some t → (∃ d, t = .d d ∧ args[i]? = some (.d d)) ∨ ∃ c c', t = .bor c' ∧ args[i]? = some (.bor c) ∧ ev'[i]? = some (some (.bor c')) ∧ σ'[i]? = (up vs)[i]? := fun i t e => by
    rw [outs_get] at e
    cases ea : args[i]? with
    | none => rw [ea] at e; cases e
    | some x =>
      rw [ea] at e
      have e2 : outOf x (ev'[i]?.join) = t := Option.some.inj e
      cases x with
      | d d => exact .inl ⟨d, by rw [← e2]; rfl, rfl⟩
      | own c => exact absurd (no _ (List.mem_of_getElem? ea)) (by intro z; cases z)
      | bor c =>
        obtain ⟨q1, q2⟩ := g0 i _ ea
        obtain ⟨⟨c', b1⟩, b2⟩ := s.bor i c q1
        refine .inr ⟨c, c', ?_, rfl, b1, b2.trans q2⟩
        rw [← e2, b1]
        rfl
  have own : ∀ a, Own (up vs) (up (outs args ev')) a → Own (up vs) (up args) a := fun a ⟨i, t, e, hc, hv⟩ => by
    obtain ⟨t', h, q⟩ := up_get.mp e
    cases q
    rcases out i _ h with ⟨d, rfl, _⟩ | ⟨c, c', rfl, h2, _, _⟩
    · cases hc
    · exact ⟨i, .bor c, up_get.mpr ⟨_, h2, rfl⟩, rfl, hv⟩
  have lown : ∀ a, LOwn (up vs) (up (outs args ev')) a → LOwn (up vs) (up args) a := fun a ⟨i, t, e, hc, hv⟩ => by
    obtain ⟨t', h, q⟩ := up_get.mp e
    cases q
    rcases out i _ h with ⟨d, rfl, _⟩ | ⟨c, c', rfl, h2, _, _⟩ <;> cases hc
  have own0 : ∀ a, Own (L2.start N vs) (up args ++ List.replicate (N.length - args.length) none) a → Own (up vs) (up args) a := fun a ⟨i, t, e, hc, hv⟩ => by
    have q := gi i t e
    rw [(g0 i t q).2] at hv
    exact ⟨i, t, up_get.mpr ⟨_, q, rfl⟩, hc, hv⟩
  have lown0 : ∀ a, ¬ LOwn (L2.start N vs) (up args ++ List.replicate (N.length - args.length) none) a := fun a ⟨i, t, e, hc, hv⟩ => by
    have q := gi i t e
    rw [no _ (List.mem_of_getElem? q)] at hc
    cases hc
  refine ⟨⟨fun a o h n => s.keep a o h fun w => n (own0 a w), s.there, s.le, fun a h1 h2 _ => s.new a h1 h2 (lown0 a), fun a w => .inl (own a w), fun a w => .inl (lown a w), fun i c e => ?_⟩, ⟨?_, r'.sub, fun i t e => ?_, fun i j t t' a e1 e2 c1 c2 g1 g2 => ?_⟩⟩
  · obtain ⟨x, h, q⟩ := up_get.mp e
    cases q
    obtain ⟨q1, q2⟩ := g0 i _ h
    obtain ⟨⟨c', b1⟩, b2⟩ := s.bor i c q1
    refine ⟨⟨c', up_get.mpr ⟨.bor c', ?_, rfl⟩⟩, rfl⟩
    rw [outs_get, h, b1]
    rfl
  · have : (outs args ev').length = args.length := by
      have h1 : ∀ i, (outs args ev')[i]? = none ↔ args[i]? = none := fun i => by
        rw [outs_get]
        cases args[i]? <;> simp
      apply Nat.le_antisymm
      · exact List.getElem?_eq_none_iff.mp ((h1 _).mpr (List.getElem?_eq_none_iff.mpr (Nat.le_refl _)))
      · exact List.getElem?_eq_none_iff.mp ((h1 _).mp (List.getElem?_eq_none_iff.mpr (Nat.le_refl _)))
    simp [up, this, l0]
  · obtain ⟨x, h, q⟩ := up_get.mp e
    cases q
    rcases out i _ h with ⟨d, rfl, h2⟩ | ⟨c, c', rfl, h2, h3, h4⟩
    · obtain ⟨v, h5, h6⟩ := r.slot i _ (up_get.mpr ⟨_, h2, rfl⟩)
      exact ⟨v, h5, R.mono s.le _ _ h6⟩
    · obtain ⟨v, h5, h6⟩ := r'.slot i _ h3
      exact ⟨v, by rw [← h4]; exact h5, h6⟩
  · obtain ⟨x, h, q⟩ := up_get.mp e1
    cases q
    obtain ⟨y, h', q⟩ := up_get.mp e2
    cases q
    rcases out i _ h with ⟨d, rfl, h2⟩ | ⟨c, c', rfl, h2, h3, h4⟩
    · cases c1
    rcases out j _ h' with ⟨d, rfl, h2'⟩ | ⟨c, c', rfl, h2', h3', h4'⟩
    · cases c2
    exact r.sep i j _ _ a (up_get.mpr ⟨_, h2, rfl⟩) (up_get.mpr ⟨_, h2', rfl⟩) rfl rfl g1 g2
section
variable {P : Program} {w : World} {K : PySem.W.Frag} {mg : Str → Option Value} {base : Heap} {qual : Str} {params : Arguments} {body : List Stmt} {scope : Scope} {dvs : List V} {kws : List (Str × V)} {f : Addr} {fd : FuncData} {x : Str} {N ps : List Str} {k : Nat} {c : MS}
/-- what an exception leaves to a def's caller -/
abbrev wDef (E : XK) : WX := fun cls d _ H => E cls d H
theorem fn_ok (F : FunD K x qual params body scope dvs kws f fd) (S : FnScope N ps scope)
    (hb : ∀ (cdv : Value) (A : Around) (outer : List Env) (s : Shared) (H : Hp) (E : XK), Room k (A.deeper (PyProof.Rows.envOfC qual scope s.heap.objs.size f cdv)) → SB (cxOf (L2.CX P w) P w K mg base N qual scope f cdv A outer s H E) (wDef E) body c) :
    FnOk P w K mg base (L2.CX P w) (k + 1) f fd ps (spF K (mkF ps.length N.length c)) := by
  have len : ∀ (vs : List V) (args : List SV) (I H : Hp), Rel K (up vs) (up args) I H → args.length = vs.length := fun vs args I H r => by have := r.len; simpa [up] using this
  refine F.ok S (fun vs H Q E h => ?_) fun cdv A outer s H vs Q E hr h => ?_
  · obtain ⟨args, I, rel, no, h⟩ := h
    unfold mkF at h
    by_cases e : args.length = ps.length
    · rw [← len vs args I H rel, e]
    · rw [if_neg e] at h
      exact h.elim
  · obtain ⟨args, I, rel, no, h⟩ := h
    obtain ⟨t, p, sim⟩ := hb cdv A outer s H E hr
    refine ⟨t, p, sim (L2.start N vs) (up args ++ List.replicate (N.length - args.length) none) I H _ (start_rel rel) ?_⟩
    unfold mkF at h
    by_cases e : args.length = ps.length
    · rw [if_pos e, ← e] at h
      unfold PostS
      cases q : c (up args ++ List.replicate (N.length - args.length) none) with
      | none => rw [q] at h; exact h
      | some o =>
        rw [q] at h
        cases o with
        | nx ev' =>
          intro σ' I' H' s' r'
          obtain ⟨s2, r2⟩ := fn_end rel no s' r'
          exact h .non I' H' s2 r2 (by show R K I' .non .non; exact R_non.mpr rfl)
        | rt rv ev' =>
          intro σ' I' H' v s' r' hv
          obtain ⟨s2, r2⟩ := fn_end rel no s' r'
          refine h v I' H' s2 r2 ?_
          cases rv with
          | d d => exact hv
          | fr c' =>
            obtain ⟨p, q1, q2, q3, q4⟩ := hv
            refine ⟨p, q1, q2.elim id fun z => ?_, q3, q4⟩
            obtain ⟨i, t, e1, e2, _⟩ := z
            exfalso
            by_cases hi : i < args.length
            · rw [List.getElem?_append_left (by simpa [up] using hi)] at e1
              obtain ⟨t', h5, h6⟩ := up_get.mp e1
              cases h6
              rw [no _ (List.mem_of_getElem? h5)] at e2
              cases e2
            · rw [List.getElem?_append_right (by simpa [up] using hi), List.getElem?_replicate] at e1
              split at e1 <;> cases e1
        | er e ev' =>
          intro σ' I' H' dd s' r' xd
          obtain ⟨s2, r2⟩ := fn_end rel no s' r'
          exact h I' H' dd s2 r2 xd
        | bk ev' => exact h.elim
        | ct ev' => exact h.elim
    · rw [if_neg e] at h
      exact h.elim
end
end FL
set_option Elab.async false
set_option linter.all false
set_option maxRecDepth 100000
namespace FL
open PySem
open PySem.Spec
open L2
def CallS (X : Cx) (f : Value) (g : List D → Option D) : Prop := ∃ r, CallR X f r ∧
  ∀ (I H : Hp) (ds : List D) (vs : List V) (d : D) (Q : VK), Le I H → g ds = some d → Rs X.K I ds vs → (∀ I' H' v, Ex I H I' H' → R X.K I' d v → Q v H') → r vs H Q
def mB (g : List D → Option D) (ca : M (List D)) : M D := ca.bind fun ds => M.opt (g ds)
theorem simB {K : PySem.W.Frag} {W : WX} {g : List D → Option D} {r : List V → Hp → VK → Prop} {ta : TA} {ca : M (List D)} (hg : ∀ (I H : Hp) (ds : List D) (vs : List V) (d : D) (Q : VK), Le I H → g ds = some d → Rs K I ds vs → (∀ I' H' v, Ex I H I' H' → R K I' d v → Q v H') → r vs H Q)
    (sa : SimA K W ta ca) : SimE K W (tCB r ta) (mB g ca) := fun σ ev I H Q rel h =>
  sa σ ev I H _ rel ((Post.bind h).imp fun x ev1 I1 H1 s1 r1 h1 vx rx => by
    obtain ⟨d, e, k⟩ := Post.opt h1
    exact hg I1 H1 x vx d Q r1.sub e rx fun I' H' v ex rv => k I' H' ex.step (r1.ex ex) v rv)
section
variable {X : Cx} {W : WX} {a b e : Expr} {es : List Expr} {pos p : Pos} {x : Str}
theorem se_callB {id : String} {g : List D → Option D} {ca : M (List D)} (hc : CallS X (.builtin id) g) (hm : X.mg x = none) (hg : Gl X x) (hv : bootBuiltins x = some (.builtin id)) (ha : SA X W (e :: es) ca) (hn : x ≠ "__name__" := by decide +kernel) (hdb : (x == ("__debug__" : Str)) = false := by decide +kernel)
    (he : starEach (e :: es) X.env = (false, eval e X.env) :: starEach es X.env := by rfl) (hpl : (backTo pos (starEach es X.env)).any (·.1) = false := by rfl) : SE X W (.Call (.Name x p) (e :: es) [] pos) (mB g ca) := by
  obtain ⟨r, hc, hq⟩ := hc
  obtain ⟨ta, pa, sa⟩ := ha
  exact ⟨_, pe_callB hc hg hm hv pa hn hdb he hpl, simB hq sa⟩
theorem se_callTy {T : String} {g : List D → Option D} {ca : M (List D)} (hc : CallS X (.type T) g) (hm : X.mg x = none) (hg : Gl X x) (hv : bootBuiltins x = some (.type T)) (ha : SA X W (e :: es) ca) (hn : x ≠ "__name__" := by decide +kernel) (hdb : (x == ("__debug__" : Str)) = false := by decide +kernel)
    (he : starEach (e :: es) X.env = (false, eval e X.env) :: starEach es X.env := by rfl) (hpl : (backTo pos (starEach es X.env)).any (·.1) = false := by rfl) : SE X W (.Call (.Name x p) (e :: es) [] pos) (mB g ca) := by
  obtain ⟨r, hc, hq⟩ := hc
  obtain ⟨ta, pa, sa⟩ := ha
  exact ⟨_, pe_callTy hc hg hm hv pa hn hdb he hpl, simB hq sa⟩
theorem Rs.one {K : PySem.W.Frag} {I : Hp} {d : D} {vs : List V} (h : Rs K I [d] vs) : ∃ v, vs = [v] ∧ R K I d v := by
  obtain ⟨v, r, rfl, h1, h2⟩ := Rs_cons.mp h
  rw [Rs_nil.mp h2]
  exact ⟨v, rfl, h1⟩
theorem Rs.two {K : PySem.W.Frag} {I : Hp} {d d' : D} {vs : List V} (h : Rs K I [d, d'] vs) : ∃ v w, vs = [v, w] ∧ R K I d v ∧ R K I d' w := by
  obtain ⟨v, r, rfl, h1, h2⟩ := Rs_cons.mp h
  obtain ⟨w, rfl, h3⟩ := h2.one
  exact ⟨v, w, rfl, h1, h3⟩
def gAbs : List D → Option D
  | [.int i] => some (.int (if i < 0 then -i else i))
  | _ => none
theorem cs_abs : CallS X (.builtin "abs") gAbs := by
  refine ⟨_, call_abs, fun I H ds vs d Q l e rs k => ?_⟩
  unfold gAbs at e
  split at e
  · cases e
    obtain ⟨v, rfl, h⟩ := rs.one
    rw [R_int.mp h]
    exact ⟨_, rfl, k I H _ (Ex.refl l) (R_int.mpr rfl)⟩
  · cases e
def gMax2 : List D → Option D
  | [.int i, .int j] => some (.int (if j > i then j else i))
  | _ => none
theorem cs_max2 (hc : X.calm = true) : CallS X (.builtin "max") gMax2 := by
  refine ⟨_, call_max2 hc, fun I H ds vs d Q l e rs k => ?_⟩
  unfold gMax2 at e
  split at e
  · cases e
    obtain ⟨v, w, rfl, h, h'⟩ := rs.two
    rw [R_int.mp h, R_int.mp h']
    exact ⟨_, _, rfl, k I H _ (Ex.refl l) (R_int.mpr rfl)⟩
  · cases e
def gMin2 : List D → Option D
  | [.int i, .int j] => some (.int (if j < i then j else i))
  | _ => none
theorem cs_min2 (hc : X.calm = true) : CallS X (.builtin "min") gMin2 := by
  refine ⟨_, call_min2 hc, fun I H ds vs d Q l e rs k => ?_⟩
  unfold gMin2 at e
  split at e
  · cases e
    obtain ⟨v, w, rfl, h, h'⟩ := rs.two
    rw [R_int.mp h, R_int.mp h']
    exact ⟨_, _, rfl, k I H _ (Ex.refl l) (R_int.mpr rfl)⟩
  · cases e
def gInt1 : List D → Option D
  | [.int i] => some (.int i)
  | [.bl q] => some (.int (if q then 1 else 0))
  | _ => none
theorem cs_int1 : CallS X (.type "int") gInt1 := by
  refine ⟨_, call_int1, fun I H ds vs d Q l e rs k => ?_⟩
  unfold gInt1 at e
  split at e
  · cases e
    obtain ⟨v, rfl, h⟩ := rs.one
    rw [R_int.mp h]
    exact .inl ⟨_, rfl, k I H _ (Ex.refl l) (R_int.mpr rfl)⟩
  · cases e
    obtain ⟨v, rfl, h⟩ := rs.one
    rw [R_bl.mp h]
    exact .inr ⟨_, rfl, k I H _ (Ex.refl l) (R_int.mpr rfl)⟩
  · cases e
def gStr1 : List D → Option D
  | [.int i] => if i.natAbs.log2 < 1920 then some (.str (toString i)) else none
  | _ => none
theorem cs_str1 : CallS X (.type "str") gStr1 := by
  refine ⟨_, call_str_int, fun I H ds vs d Q l e rs k => ?_⟩
  unfold gStr1 at e
  split at e
  · split at e
    · rename_i hc
      cases e
      obtain ⟨v, rfl, h⟩ := rs.one
      rw [R_int.mp h]
      exact ⟨_, rfl, hc, k I H _ (Ex.refl l) (R_str.mpr rfl)⟩
    · cases e
  · cases e
def lenD : D → Option Nat
  | .lst xs => some xs.length
  | .tup xs => some xs.length
  | .str y => if y.length ≤ sizeLine then some y.length else none
  | _ => none
theorem lenD_ok {K : PySem.W.Frag} {I H : Hp} (l : Le I H) {d : D} {v : V} {n : Nat} (e : lenD d = some n) (r : R K I d v) : LenV K v H n := by
  cases d with
  | lst xs =>
    cases e
    obtain ⟨p, vs, rfl, h1, h2⟩ := R_lst.mp r
    exact .inl ⟨vs, l.sqL h1, h2.length⟩
  | tup xs =>
    cases e
    obtain ⟨p, vs, rfl, h1, h2⟩ := R_tup.mp r
    exact .inr ⟨vs, l.sqT h1, h2.length⟩
  | str y =>
    rw [R_str.mp r]
    simp only [lenD] at e
    split at e
    · rename_i hc
      cases e
      exact ⟨hc, rfl⟩
    · cases e
  | _ => cases e
def gLen : List D → Option D
  | [d] => (lenD d).map fun (n : Nat) => D.int (n : Int)
  | _ => none
theorem cs_len : CallS X (.builtin "len") gLen := by
  refine ⟨_, call_len, fun I H ds vs d Q l e rs k => ?_⟩
  unfold gLen at e
  split at e
  · obtain ⟨n, e1, rfl⟩ := Option.map_eq_some_iff.mp e
    obtain ⟨v, rfl, h⟩ := rs.one
    exact ⟨v, n, rfl, lenD_ok l e1 h, k I H _ (Ex.refl l) (R_int.mpr rfl)⟩
  · cases e
/-- truth values -/
def blsD : List D → Option (List Bool)
  | [] => some []
  | .bl q :: r => (blsD r).map (q :: ·)
  | _ => none
theorem blsD_ok {K : PySem.W.Frag} {I : Hp} : ∀ {ds : List D} {bs : List Bool} {vs : List V}, blsD ds = some bs → Rs K I ds vs → vs = bs.map V.bl
  | [], bs, vs, e, r => by
    cases e
    rw [Rs_nil.mp r]
    rfl
  | d :: ds, bs, vs, e, r => by
    obtain ⟨v, w, rfl, h1, h2⟩ := Rs_cons.mp r
    cases d with
    | bl q =>
      simp only [blsD] at e
      obtain ⟨bs', e1, rfl⟩ := Option.map_eq_some_iff.mp e
      rw [R_bl.mp h1, blsD_ok e1 h2]
      rfl
    | _ => simp [blsD] at e
def gAll : List D → Option D
  | [.lst ds] => (blsD ds).map fun bs => .bl (bs.all id)
  | _ => none
def gAny : List D → Option D
  | [.lst ds] => (blsD ds).map fun bs => .bl (bs.any id)
  | _ => none
theorem cs_all (hc : X.calm = true) : CallS X (.builtin "all") gAll := by
  refine ⟨_, cr_all hc, fun I H ds vs d Q l e rs k => ?_⟩
  unfold gAll at e
  split at e
  · obtain ⟨bs, e1, rfl⟩ := Option.map_eq_some_iff.mp e
    obtain ⟨v, rfl, h⟩ := rs.one
    obtain ⟨p, ws, rfl, h1, h2⟩ := R_lst.mp h
    rw [blsD_ok e1 h2] at h1
    exact ⟨p, bs, rfl, l.sqL h1, k I H _ (Ex.refl l) (R_bl.mpr rfl)⟩
  · cases e
theorem cs_any (hc : X.calm = true) : CallS X (.builtin "any") gAny := by
  refine ⟨_, cr_any hc, fun I H ds vs d Q l e rs k => ?_⟩
  unfold gAny at e
  split at e
  · obtain ⟨bs, e1, rfl⟩ := Option.map_eq_some_iff.mp e
    obtain ⟨v, rfl, h⟩ := rs.one
    obtain ⟨p, ws, rfl, h1, h2⟩ := R_lst.mp h
    rw [blsD_ok e1 h2] at h1
    exact ⟨p, bs, rfl, l.sqL h1, k I H _ (Ex.refl l) (R_bl.mpr rfl)⟩
  · cases e
/-- a type's name: a built-in one, one of the text's -/
inductive TN where
  | b (n : String)
  | o (C : String)
  deriving DecidableEq
def tnV (K : PySem.W.Frag) : TN → Value
  | .b n => .type n
  | .o C => .ref (cad K C)
def tyN : D → Option TN
  | .non => some (.b "NoneType")
  | .bl _ => some (.b "bool")
  | .int _ => some (.b "int")
  | .str _ => some (.b "str")
  | .tup _ => some (.b "tuple")
  | .lst _ => some (.b "list")
  | .ins C _ _ => some (.o C)
  | _ => none
def clN : D → Option TN
  | .ty n => some (.b n)
  | .cls C => some (.o C)
  | _ => none
/-- an own class as isinstance sees it -/
structure InsTy (K : PySem.W.Frag) (C : Addr) : Prop where
  cl : Cls K C
  hcl : PySem.W.findIn K (.ref C) "__class__" = some (some (.builtin "object.__class__"))
  hgt : PySem.W.specialIn K (.builtin "object.__class__") "__get__" = some (some (.builtin "getset_descriptor.__get__"))
  htkn : PySem.W.takesIn K (.builtin "object.__class__") = some true
  hmro : PySem.W.mroIn K C (.type "object") = some true
theorem SqL.ty {K : PySem.W.Frag} {H : Hp} {a : Addr} {xs : List V} (h : SqL K H a xs) : TyX K H (.ref a) (.type "list") := by
  rcases h with (h | ⟨o, h⟩) | ⟨o, its, n, h1, h2, _⟩
  · exact .base (.lst h)
  · exact .base (.frz h)
  · exact .kList h1 h2
theorem SqT.ty {K : PySem.W.Frag} {H : Hp} {a : Addr} {xs : List V} (h : SqT K H a xs) : TyX K H (.ref a) (.type "tuple") := by
  rcases h with (h | ⟨o, h⟩) | ⟨o, its, n, h1, h2, _⟩
  · exact .base (.tup h)
  · exact .fTuple h
  · exact .kTuple h1 h2
/-- the table of what isinstance answers; ins: the own classes -/
structure KitT (K : PySem.W.Frag) (kt : List (TN × TN × Bool)) (ins : List String) : Prop where
  ok : ∀ r ∈ kt, PySem.W.kitOne K (tnV K r.1) (tnV K r.2.1) = some r.2.2
  ins : ∀ C ∈ ins, InsTy K (cad K C)
def lkT : List (TN × TN × Bool) → TN → TN → Option Bool
  | [], _, _ => none
  | r :: kt, t, u => if r.1 = t ∧ r.2.1 = u then some r.2.2 else lkT kt t u
theorem lkT_mem : ∀ {kt : List (TN × TN × Bool)} {t u : TN} {b : Bool}, lkT kt t u = some b → (t, u, b) ∈ kt
  | [], t, u, b, h => by cases h
  | r :: kt, t, u, b, h => by
    unfold lkT at h
    split at h
    · rename_i q
      obtain ⟨r1, r2, r3⟩ := r
      cases h
      obtain ⟨q1, q2⟩ := q
      simp only at q1 q2
      subst q1 q2
      exact List.mem_cons_self ..
    · exact List.mem_cons_of_mem _ (lkT_mem h)
def okIns (ins : List String) : D → Bool
  | .ins C _ _ => ins.contains C
  | _ => true
def gIsi (kt : List (TN × TN × Bool)) (ins : List String) : List D → Option D
  | [x, c] => match tyN x, clN c with
    | some t, some u => if okIns ins x then (lkT kt t u).map .bl else none
    | _, _ => none
  | _ => none
theorem tyN_ok {K : PySem.W.Frag} {I H : Hp} {kt : List (TN × TN × Bool)} {ins : List String} (T : KitT K kt ins) (l : Le I H) {d : D} {t : TN} {v : V} (e : tyN d = some t) (ho : okIns ins d = true) (r : R K I d v) : TyX K H v (tnV K t) := by
  cases d with
  | non => cases e; rw [R_non.mp r]; exact .base .non
  | bl => cases e; rw [R_bl.mp r]; exact .base (.bl _)
  | int => cases e; rw [R_int.mp r]; exact .base (.int _)
  | str => cases e; rw [R_str.mp r]; exact .base (.str _)
  | tup => cases e; obtain ⟨p, vs, rfl, h1, h2⟩ := R_tup.mp r; exact SqT.ty (l.sqT h1)
  | lst => cases e; obtain ⟨p, vs, rfl, h1, h2⟩ := R_lst.mp r; exact SqL.ty (l.sqL h1)
  | ins C ks fs =>
    cases e
    obtain ⟨p, dx, vs, rfl, h1, _, _⟩ := R_ins.mp r
    have q := T.ins C (by simpa [okIns] using ho)
    exact .base (.ins (l _ _ h1) q.cl q.hcl q.hgt q.htkn q.hmro)
  | _ => cases e
theorem clN_ok {K : PySem.W.Frag} {I : Hp} {d : D} {t : TN} {v : V} (e : clN d = some t) (r : R K I d v) : ClsV v (tnV K t) := by
  cases d with
  | ty n => cases e; rw [R_ty.mp r]; exact .ty n
  | cls C => cases e; rw [R_cls.mp r]; exact .own _
  | _ => cases e
theorem cs_isi {kt : List (TN × TN × Bool)} {ins : List String} (T : KitT X.K kt ins) : CallS X (.builtin "isinstance") (gIsi kt ins) := by
  refine ⟨_, call_isi, fun I H ds vs d Q l e rs k => ?_⟩
  unfold gIsi at e
  split at e
  · split at e
    · rename_i x c t u e1 e2
      split at e
      · rename_i ho
        obtain ⟨q, e3, rfl⟩ := Option.map_eq_some_iff.mp e
        obtain ⟨v, w, rfl, h1, h2⟩ := rs.two
        exact ⟨v, w, _, _, q, rfl, clN_ok e2 h2, tyN_ok T l e1 ho h1, T.ok _ (lkT_mem e3), k I H _ (Ex.refl l) (R_bl.mpr rfl)⟩
      · cases e
    · cases e
  · cases e
theorem Rs.atI {K : PySem.W.Frag} {I : Hp} {ds : List D} {vs : List V} {i : Int} {d : D} (h : Rs K I ds vs) (e : L2.atI ds i = some d) : ∃ v, L2.atI vs i = some v ∧ R K I d v := by
  unfold L2.atI at e ⊢
  rw [← h.length]
  cases q : ixN ds.length i with
  | none => rw [q] at e; cases e
  | some j => rw [q] at e; exact h.get e
def dIx : D → D → Option D
  | .lst xs, .int i => L2.atI xs i
  | .tup xs, .int i => L2.atI xs i
  | .str z, .int i => if z.length ≤ sizeLine then (L2.atI z.cps.toList i).map fun c => .str ⟨#[c]⟩ else none
  | _, _ => none
theorem ix_ok : ∀ (I H : Hp) (a b : D) (x y : V) (d : D) (Q : VK), Le I H → dIx a b = some d → R X.K I a x → R X.K I b y → (∀ I' H' v, Ex I H I' H' → R X.K I' d v → Q v H') → rIx X.K x y H Q := fun I H a b x y d Q l e rx ry k => by
  cases a with
  | lst xs =>
    cases b with
    | int i =>
      obtain ⟨p, vs, rfl, h1, h2⟩ := R_lst.mp rx
      obtain ⟨v, h3, h4⟩ := h2.atI (show L2.atI xs i = some d from e)
      exact .inl ⟨p, vs, i, v, rfl, R_int.mp ry, l.sqL h1, h3, k I H v (Ex.refl l) h4⟩
    | _ => cases e
  | tup xs =>
    cases b with
    | int i =>
      obtain ⟨p, vs, rfl, h1, h2⟩ := R_tup.mp rx
      obtain ⟨v, h3, h4⟩ := h2.atI (show L2.atI xs i = some d from e)
      exact .inr (.inl ⟨p, vs, i, v, rfl, R_int.mp ry, l.sqT h1, h3, k I H v (Ex.refl l) h4⟩)
    | _ => cases e
  | str z =>
    cases b with
    | int i =>
      simp only [dIx] at e
      split at e
      · rename_i hz
        obtain ⟨c, h3, rfl⟩ := Option.map_eq_some_iff.mp e
        exact .inr (.inr ⟨z, i, c, R_str.mp rx, R_int.mp ry, hz, h3, k I H _ (Ex.refl l) (R_str.mpr rfl)⟩)
      · cases e
    | _ => cases e
  | _ => cases e
theorem se_ix {ca cb : M D} (ha : SE X W a ca) (hb : SE X W b cb) (hs : PlainIx b := by exact fun _ _ => rfl) : SE X W (.Subscript a b pos) (m2 dIx ca cb) := by
  obtain ⟨ta, pa, sa⟩ := ha
  obtain ⟨tb, pb, sb⟩ := hb
  exact ⟨_, pe_ix ix_seq pa pb hs, sim2 ix_ok sa sb⟩
/-- an item of what a name holds: data, or a mutable list -/
def nmD (ev : Ev) (i : Nat) : Option D := match ev[i]? with
  | some (some (.d d)) => some d
  | some (some (.own c)) => some (fz c)
  | some (some (.bor c)) => some (fz c)
  | _ => none
/-- what a name holds, for a look -/
theorem peek {K : PySem.W.Frag} {σ : St} {ev : Ev} {I H : Hp} {i : Nat} {d : D} {v : V} (rel : Rel K σ ev I H) (e : nmD ev i = some d) (hv : σ[i]? = some (some v)) : ∃ J, Le I J ∧ Le J H ∧ R K J d v := by
  unfold nmD at e
  cases q : ev[i]? with
  | none => rw [q] at e; cases e
  | some o =>
    rw [q] at e
    cases o with
    | none => cases e
    | some s =>
      obtain ⟨w, h1, h2⟩ := rel.slot i s q
      rw [hv] at h1
      cases h1
      have cell : ∀ c p, v = .ref p → I p = none → CellAt K I H p c → ∃ J, Le I J ∧ Le J H ∧ R K J (fz c) v := fun c p hv h3 h4 => by
        subst hv
        have grow : ∀ o, H p = some o → Le I (upd I p o) ∧ Le (upd I p o) H := fun o ho => by
          refine ⟨fun a u q => by rw [upd_ne (ne_of_none q h3)]; exact q, fun a u q => ?_⟩
          by_cases z : a = p
          · subst z; rw [upd_same] at q; cases q; exact ho
          · rw [upd_ne z] at q; exact rel.sub a u q
        cases c with
        | lst xs =>
          obtain ⟨vs, e, rs⟩ := h4
          obtain ⟨g1, g2⟩ := grow _ e
          exact ⟨_, g1, g2, R_lst.mpr ⟨p, vs, rfl, SqL.of upd_same, Rs.mono g1 _ _ rs⟩⟩
        | ins C ks fs =>
          obtain ⟨dx, vs, e, n, rs⟩ := h4
          obtain ⟨g1, g2⟩ := grow _ e
          exact ⟨_, g1, g2, R_ins.mpr ⟨p, dx, vs, rfl, upd_same, n, Rs.mono g1 _ _ rs⟩⟩
      cases s with
      | d d => cases e; exact ⟨I, Le.refl _, rel.sub, h2⟩
      | own c => cases e; obtain ⟨p, hv, h3, h4⟩ := h2; exact cell c p hv h3 h4
      | bor c => cases e; obtain ⟨p, hv, h3, h4⟩ := h2; exact cell c p hv h3 h4
theorem peek_set {K : PySem.W.Frag} {σ : St} {ev : Ev} {I H : Hp} {i : Nat} {s : SV} (rel : Rel K σ ev I H) (e : ev[i]? = some (some s)) : ∃ v, σ[i]? = some (some v) := by
  obtain ⟨v, h, _⟩ := rel.slot i s e
  exact ⟨v, h⟩
/-- a name that must hold something, then the rest -/
def mNm {α : Type} (i : Nat) (c : M α) : M α := fun ev => match ev[i]? with
  | some (some _) => c ev
  | _ => none
theorem Post.nm {α : Type} {K : PySem.W.Frag} {W : WX} {i : Nat} {c : M α} {σ : St} {ev : Ev} {I H : Hp} {G : α → Ev → Hp → Hp → Prop} (rel : Rel K σ ev I H) (h : Post K W (mNm i c) σ ev I H G) : (∃ v, σ[i]? = some (some v)) ∧ Post K W c σ ev I H G := by
  unfold Post mNm at h
  cases q : ev[i]? with
  | none => rw [q] at h; exact h.elim
  | some o =>
    rw [q] at h
    cases o with
    | none => exact h.elim
    | some s => exact ⟨peek_set rel q, h⟩
/-- an item: the list's own data, wherever the list stands -/
def itemOf (ev : Ev) (i : Nat) (y : D) : Option D := match ev[i]? with
  | some (some (.d d)) => dIx d y
  | some (some (.own (.lst xs))) => dIx (.lst xs) y
  | some (some (.bor (.lst xs))) => dIx (.lst xs) y
  | _ => none
def mIxN (i : Nat) (cb : M D) : M D := mNm i (cb.bind fun y ev => (itemOf ev i y).map fun r => .ok r ev)
theorem itemOf_ok {σ : St} {ev : Ev} {I H : Hp} {i : Nat} {y d : D} {v vy : V} {Q : VK} (rel : Rel X.K σ ev I H) (e : itemOf ev i y = some d) (hv : σ[i]? = some (some v)) (ry : R X.K I y vy) (k : ∀ I' H' v', Ex I H I' H' → R X.K I' d v' → Q v' H') : rIx X.K v vy H Q := by
  unfold itemOf at e
  cases q : ev[i]? with
  | none => rw [q] at e; cases e
  | some o =>
    rw [q] at e
    cases o with
    | none => cases e
    | some s =>
      obtain ⟨w, h1, h2⟩ := rel.slot i s q
      rw [hv] at h1
      cases h1
      have cell : ∀ xs p, v = .ref p → CellAt X.K I H p (.lst xs) → dIx (.lst xs) y = some d → rIx X.K v vy H Q := fun xs p hv h4 e => by
        subst hv
        obtain ⟨vs, e4, rs⟩ := h4
        cases y with
        | int j =>
          obtain ⟨z, h5, h6⟩ := rs.atI (show L2.atI xs j = some d from e)
          exact .inl ⟨p, vs, j, z, rfl, R_int.mp ry, SqL.of e4, h5, k I H z (Ex.refl rel.sub) h6⟩
        | _ => cases e
      cases s with
      | d d0 => exact ix_ok I H d0 y v vy d Q rel.sub e h2 ry k
      | own c =>
        obtain ⟨p, hv, h3, h4⟩ := h2
        cases c with
        | lst xs => exact cell xs p hv h4 e
        | ins => cases e
      | bor c =>
        obtain ⟨p, hv, h3, h4⟩ := h2
        cases c with
        | lst xs => exact cell xs p hv h4 e
        | ins => cases e
theorem Post.optv {α : Type} {K : PySem.W.Frag} {W : WX} {f : Ev → Option α} {σ : St} {ev : Ev} {I H : Hp} {G : α → Ev → Hp → Hp → Prop} (h : Post K W (fun ev => (f ev).map fun r => .ok r ev) σ ev I H G) : ∃ a, f ev = some a ∧ ∀ I' H', Step σ ev I H σ ev I' H' → Rel K σ ev I' H' → G a ev I' H' := by
  unfold Post at h
  dsimp only at h
  cases e : f ev with
  | none => rw [e] at h; exact h.elim
  | some a => rw [e] at h; exact ⟨a, rfl, h⟩
theorem se_ixN (i : Nat) {cb : M D} (hN : X.N[i]? = some x) (hv : Vis X.env.scope x) (hb : SE X W b cb) (hs : PlainIx b := by exact fun _ _ => rfl) (hd : (x == ("__debug__" : Str)) = false := by decide +kernel) (hcd : (x == ("__classdict__" : Str)) = false := by decide +kernel) :
    SE X W (.Subscript (.Name x p) b pos) (mIxN i cb) := by
  obtain ⟨tb, pb, sb⟩ := hb
  refine ⟨_, pe_ix ix_seq (pe_var hN hv hd hcd) pb hs, fun σ ev I H Q rel h => ?_⟩
  obtain ⟨⟨v, hσ⟩, h1⟩ := h.nm rel
  refine ⟨v, hσ, sb σ ev I H _ rel ((Post.bind h1).imp fun y ev1 I1 H1 s1 r1 h2 vy ry => ?_)⟩
  obtain ⟨d, e, k⟩ := Post.optv h2
  exact itemOf_ok r1 e hσ ry fun I' H' v' ex rv => k I' H' ex.step (r1.ex ex) v' rv
/-- len and the like of what a name holds: a scalar comes back -/
def isSc : D → Bool
  | .non => true
  | .bl _ => true
  | .int _ => true
  | .str _ => true
  | _ => false
theorem sc_any {K : PySem.W.Frag} {I J : Hp} {d : D} {v : V} (h : isSc d = true) (r : R K I d v) : R K J d v := by
  cases d with
  | non => exact R_non.mpr (R_non.mp r)
  | bl => exact R_bl.mpr (R_bl.mp r)
  | int => exact R_int.mpr (R_int.mp r)
  | str => exact R_str.mpr (R_str.mp r)
  | _ => cases h
def mBN (g : List D → Option D) (i : Nat) : M D := fun ev => match nmD ev i with
  | some d => (match g [d] with
    | some r => if isSc r then some (.ok r ev) else none
    | none => none)
  | none => none
theorem se_callBN (i : Nat) {y : Str} {py : Pos} {id : String} {g : List D → Option D} {r : List V → Hp → VK → Prop} (hc : CallR X (.builtin id) r) (hq : ∀ (I H : Hp) (ds : List D) (vs : List V) (d : D) (Q : VK), Le I H → g ds = some d → Rs X.K I ds vs → (∀ v, R X.K I d v → Q v H) → r vs H Q)
    (hm : X.mg x = none) (hg : Gl X x) (hv : bootBuiltins x = some (.builtin id)) (hN : X.N[i]? = some y) (hy : Vis X.env.scope y) (hn : x ≠ "__name__" := by decide +kernel) (hdb : (x == ("__debug__" : Str)) = false := by decide +kernel)
    (hd : (y == ("__debug__" : Str)) = false := by decide +kernel) (hcd : (y == ("__classdict__" : Str)) = false := by decide +kernel)
    (he : starEach [.Name y py] X.env = (false, eval (.Name y py) X.env) :: starEach [] X.env := by rfl) (hpl : (backTo pos (starEach [] X.env)).any (·.1) = false := by rfl) : SE X W (.Call (.Name x p) [.Name y py] [] pos) (mBN g i) := by
  refine ⟨_, pe_callB hc hg hm hv (pa_cons (pe_var hN hy hd hcd) pa_nil he) hn hdb he hpl, fun σ ev I H Q rel h => ?_⟩
  unfold Post mBN at h
  cases q : nmD ev i with
  | none => rw [q] at h; exact h.elim
  | some d =>
    rw [q] at h
    have q' := q
    unfold nmD at q'
    cases e : ev[i]? with
    | none => rw [e] at q'; cases q'
    | some o =>
      cases o with
      | none => rw [e] at q'; cases q'
      | some s =>
        obtain ⟨v, hσ⟩ := peek_set rel e
        obtain ⟨J, j1, j2, j3⟩ := peek rel q hσ
        refine ⟨v, hσ, ?_⟩
        cases eg : g [d] with
        | none => simp only [eg] at h
        | some r' =>
          simp only [eg] at h
          cases hs : isSc r' with
          | false => rw [hs] at h; exact h.elim
          | true =>
            rw [hs] at h
            exact hq J H [d] [v] r' Q j2 eg (Rs_cons.mpr ⟨v, [], rfl, j3, Rs_nil.mpr rfl⟩) fun v' rv => h I H (Step.refl ..) rel v' (sc_any hs rv)
theorem lenR_ok {K : PySem.W.Frag} : ∀ (I H : Hp) (ds : List D) (vs : List V) (d : D) (Q : VK), Le I H → gLen ds = some d → Rs K I ds vs → (∀ v, R K I d v → Q v H) → rLen K vs H Q := fun I H ds vs d Q l e rs k => by
  unfold gLen at e
  split at e
  · obtain ⟨n, e1, rfl⟩ := Option.map_eq_some_iff.mp e
    obtain ⟨v, rfl, h⟩ := rs.one
    exact ⟨v, n, rfl, lenD_ok l e1 h, k _ (R_int.mpr rfl)⟩
  · cases e
def setAt (i : Nat) (y x : D) (ev : Ev) : Option Ev := match ev[i]?, y with
  | some (some (.own (.lst xs))), .int k => (ixN xs.length k).map fun j => ev.set i (some (.own (.lst (xs.set j x))))
  | some (some (.bor (.lst xs))), .int k => (ixN xs.length k).map fun j => ev.set i (some (.bor (.lst (xs.set j x))))
  | _, _ => none
/-- a cell's content changes -/
theorem write_cell {K : PySem.W.Frag} {σ : St} {ev : Ev} {I H : Hp} {i : Nat} {s : SV} {c : Cell} {p : Addr} {o : HO} (rel : Rel K σ ev I H) (e : ev[i]? = some (some s)) (hs : s.isCell = true) (hv : σ[i]? = some (some (.ref p))) (hI : I p = none) (h0 : H p ≠ none) (hc : CellAt K I (upd H p o) p c) :
    Step σ ev I H σ (ev.set i (some (kindTo s c))) I (upd H p o) ∧ Rel K σ (ev.set i (some (kindTo s c))) I (upd H p o) := by
  have hi : i < ev.length := (List.getElem?_eq_some_iff.mp e).1
  have ke : KE ev (ev.set i (some (kindTo s c))) := ⟨by simp, fun j => by
    by_cases h : i = j
    · subst h
      exact .inl ⟨s, c, e, hs, List.getElem?_set_self hi⟩
    · exact .inr (List.getElem?_set_ne h)⟩
  have ownp : Own σ ev p := ⟨i, s, e, hs, hv⟩
  have keep : ∀ a u, H a = some u → a ≠ p → upd H p o a = some u := fun a u h n => by rw [upd_ne n]; exact h
  refine ⟨⟨fun a u h n => keep a u h fun z => n (by rw [z]; exact ownp), fun a h => ?_, Le.refl _, fun _ _ h _ => h, fun a w => .inl (ke.own w), fun a ⟨j, t, e', ho, hv'⟩ => ?_, fun j c' e' => ⟨ke.bor e', rfl⟩⟩, ⟨by rw [ke.1]; exact rel.len, fun a u q => ?_, fun j t e' => ?_, fun j k t t' a e1 e2 c1 c2 g1 g2 => ?_⟩⟩
  · by_cases z : a = p
    · rw [z, upd_same]; exact fun z => by cases z
    · rw [upd_ne z]; exact h
  · obtain ⟨t', e2, c2, o2⟩ := ke.cell e' (by cases t <;> first | rfl | (cases ho))
    exact .inl ⟨j, t', e2, o2.trans ho, hv'⟩
  · have hne : a ≠ p := fun z => by rw [z, hI] at q; cases q
    rw [upd_ne hne]
    exact rel.sub a u q
  · by_cases h : i = j
    · subst h
      rw [List.getElem?_set_self hi] at e'
      cases e'
      refine ⟨_, hv, ?_⟩
      cases s with
      | d d => cases hs
      | own c' => exact ⟨p, rfl, hI, hc⟩
      | bor c' => exact ⟨p, rfl, hI, hc⟩
    · rw [List.getElem?_set_ne h] at e'
      obtain ⟨v, h1, h2⟩ := rel.slot j t e'
      refine ⟨v, h1, ?_⟩
      have cell : ∀ c' q, t.isCell = true → v = .ref q → CellAt K I H q c' → CellAt K I (upd H p o) q c' := fun c' q ht hvq h4 => by
        refine h4.mono (Le.refl _) fun u hu => keep q u hu fun z => h ?_
        subst z
        exact rel.sep i j s t q e e' hs ht hv (by rw [h1, hvq])
      cases t with
      | d d => exact h2
      | own c' => obtain ⟨q, hvq, h3, h4⟩ := h2; exact ⟨q, hvq, h3, cell c' q rfl hvq h4⟩
      | bor c' => obtain ⟨q, hvq, h3, h4⟩ := h2; exact ⟨q, hvq, h3, cell c' q rfl hvq h4⟩
  · obtain ⟨t1, f1, d1, _⟩ := ke.cell e1 c1
    obtain ⟨t2, f2, d2, _⟩ := ke.cell e2 c2
    exact rel.sep j k t1 t2 a f1 f2 d1 d2 g1 g2
def sSetAt (i : Nat) (ca cb : M D) : MS := sE ca fun x => sE (mNm i cb) fun y => sOpt (setAt i y x)
theorem ss_setAt (i : Nat) {ca cb : M D} {e : Expr} {ps : Pos} (hN : X.N[i]? = some x) (hv : Vis X.env.scope x) (ha : SE X W e ca) (hb : SE X W b cb)
    (hp : ∀ {to ti : TE}, PE X (.Name x p) to → PE X b ti → PG X (.Subscript (.Name x p) b ps) (gSub to ti rSetL) := by exact fun ho hi => pg_sub ho hi set_list) (hd : (x == ("__debug__" : Str)) = false := by decide +kernel) (hcd : (x == ("__classdict__" : Str)) = false := by decide +kernel)
    (hs : swapsWithSole [.Subscript (.Name x p) b ps] e pos.line X.env = pure false := by rfl) (hw : swappedStores [.Subscript (.Name x p) b ps] e X.env = pure none := by rfl) (h1 : (assignEach [.Subscript (.Name x p) b ps] X.env).map (·.2) = [assign (.Subscript (.Name x p) b ps) X.env] := by rfl) :
    SS X W (.Assign [.Subscript (.Name x p) b ps] e pos) (sSetAt i ca cb) := by
  obtain ⟨ta, pa, sa⟩ := ha
  obtain ⟨tb, pb, sb⟩ := hb
  refine ⟨_, ps_asg pa (hp (pe_var hN hv hd hcd) pb) hs hw h1, fun σ ev I H En rel h => ?_⟩
  refine sa σ ev I H _ rel (h.expr.imp fun d ev1 I1 H1 s1 r1 h1 v rv => ?_)
  obtain ⟨⟨vi, hσ⟩, h2⟩ := h1.expr.nm r1
  refine ⟨vi, hσ, sb σ ev1 I1 H1 _ r1 (h2.imp fun y ev2 I2 H2 s2 r2 h3 vy ry => ?_)⟩
  obtain ⟨ev3, e3, k⟩ := h3.opt
  unfold setAt at e3
  have go : ∀ (s : SV) (xs : List D) (j : Int), ev2[i]? = some (some s) → (s = .own (.lst xs) ∨ s = .bor (.lst xs)) → y = .int j → (∃ q, ixN xs.length j = some q ∧ ev3 = ev2.set i (some (kindTo s (.lst (xs.set q d))))) → rSetL vi vy v H2 fun H3 => En.nx σ H3 := fun s xs j e4 e5 e6 e7 => by
    subst e6
    have hcell : s.isCell = true := by rcases e5 with rfl | rfl <;> rfl
    obtain ⟨p, c, g1, g2, g3, g4⟩ := r2.cell e4 hcell
    have hcl : c = .lst xs := by rcases e5 with rfl | rfl <;> rcases g4 with g4 | g4 <;> first | (cases g4; rfl) | cases g4
    subst hcl
    obtain ⟨vs, e8, rs⟩ := g3
    rw [hσ] at g1
    cases g1
    obtain ⟨q, e9, rfl⟩ := e7
    refine ⟨p, vs, j, q, rfl, R_int.mp ry, e8, by rw [← rs.length]; exact e9, ?_⟩
    obtain ⟨s3, r3⟩ := write_cell (c := .lst (xs.set q d)) (o := .lst (vs.set q v)) r2 e4 hcell hσ g2 (by rw [e8]; exact fun z => by cases z) ⟨_, upd_same, rs.set (R.mono s2.le _ _ rv) q⟩
    exact k σ I2 _ s3 r3
  split at e3
  · rename_i xs j e4
    obtain ⟨q, e5, rfl⟩ := Option.map_eq_some_iff.mp e3
    exact go _ xs j e4 (.inl rfl) rfl ⟨q, e5, rfl⟩
  · rename_i xs j e4
    obtain ⟨q, e5, rfl⟩ := Option.map_eq_some_iff.mp e3
    exact go _ xs j e4 (.inr rfl) rfl ⟨q, e5, rfl⟩
  · cases e3
end
end FL
set_option Elab.async false
set_option linter.all false
set_option maxRecDepth 100000
namespace FL
open PySem
open PySem.Spec
open L2
mutual
/-- a value of the written part is this data -/
def relDK (K : PySem.W.Frag) : D → Value → Bool
  | .non, .none => true
  | .bl b, .bool c => b == c
  | .int i, .int j _ => decide (i = j)
  | .str x, .str y _ => decide (x = y)
  | .ty n, .type m => decide (n = m)
  | .cls C, .ref a => decide (a = cad K C)
  | .tup xs, .ref a => (match K.lookup a with
    | some ⟨.type c, _, .seq its _, _⟩ => decide (c = "tuple") && (decide (its.size ≤ sizeLine) && relDKs K xs its.toList)
    | _ => false)
  | _, _ => false
def relDKs (K : PySem.W.Frag) : List D → List Value → Bool
  | [], [] => true
  | x :: xs, v :: vs => relDK K x v && relDKs K xs vs
  | _, _ => false
end
theorem and_tt {a b : Bool} (h : (a && b) = true) : a = true ∧ b = true := Bool.and_eq_true_iff.mp h
mutual
theorem relDK_ok {K : PySem.W.Frag} {I : Hp} : ∀ (d : D) (u : Value), relDK K d u = true → ∃ v, RelV v u ∧ R K I d v
  | .non, u, h => by
    cases u with
    | none => exact ⟨.non, rfl, R_non.mpr rfl⟩
    | _ => unfold relDK at h; cases h
  | .bl b, u, h => by
    cases u with
    | bool c =>
      unfold relDK at h
      have e : b = c := eq_of_beq h
      subst e
      exact ⟨.bl b, rfl, R_bl.mpr rfl⟩
    | _ => unfold relDK at h; cases h
  | .int i, u, h => by
    cases u with
    | int j t =>
      unfold relDK at h
      have e : i = j := of_decide_eq_true h
      subst e
      exact ⟨.int i, ⟨t, rfl⟩, R_int.mpr rfl⟩
    | _ => unfold relDK at h; cases h
  | .str x, u, h => by
    cases u with
    | str j t =>
      unfold relDK at h
      have e : x = j := of_decide_eq_true h
      subst e
      exact ⟨.str x, ⟨t, rfl⟩, R_str.mpr rfl⟩
    | _ => unfold relDK at h; cases h
  | .ty n, u, h => by
    cases u with
    | type m =>
      unfold relDK at h
      have e : n = m := of_decide_eq_true h
      subst e
      exact ⟨.ty n, rfl, R_ty.mpr rfl⟩
    | _ => unfold relDK at h; cases h
  | .cls C, u, h => by
    cases u with
    | ref a =>
      unfold relDK at h
      have e : a = cad K C := of_decide_eq_true h
      subst e
      exact ⟨.ref _, rfl, R_cls.mpr rfl⟩
    | _ => unfold relDK at h; cases h
  | .tup xs, u, h => by
    cases u with
    | ref a =>
      unfold relDK at h
      cases q : K.lookup a with
      | none => rw [q] at h; cases h
      | some o =>
        obtain ⟨oc, od, dt, osl⟩ := o
        rw [q] at h
        cases oc with
        | type c =>
          cases dt with
          | seq its n =>
            obtain ⟨h1, h2⟩ := and_tt h
            obtain ⟨h3, h4⟩ := and_tt h2
            obtain ⟨vs, rv, rs⟩ := relDKs_ok (I := I) xs its.toList h4
            have e1 : c = "tuple" := of_decide_eq_true h1
            subst e1
            exact ⟨.ref a, rfl, R_tup.mpr ⟨a, vs, rfl, .inr ⟨_, its, n, q, rfl, rfl, of_decide_eq_true h3, rv⟩, rs⟩⟩
          | _ => cases h
        | _ => cases h
    | _ => unfold relDK at h; cases h
  | .lst xs, u, h => by unfold relDK at h; cases h
  | .ins _ _ _, u, h => by unfold relDK at h; cases h
theorem relDKs_ok {K : PySem.W.Frag} {I : Hp} : ∀ (ds : List D) (us : List Value), relDKs K ds us = true → ∃ vs, Vals vs us ∧ Rs K I ds vs
  | [], us, h => by
    cases us with
    | nil => exact ⟨[], .nil, Rs_nil.mpr rfl⟩
    | cons => unfold relDKs at h; cases h
  | x :: xs, us, h => by
    cases us with
    | nil => unfold relDKs at h; cases h
    | cons u us =>
      unfold relDKs at h
      obtain ⟨h1, h2⟩ := and_tt h
      obtain ⟨v, r1, r2⟩ := relDK_ok (I := I) x u h1
      obtain ⟨vs, r3, r4⟩ := relDKs_ok (I := I) xs us h2
      exact ⟨v :: vs, .cons r1 r3, Rs_cons.mpr ⟨v, vs, rfl, r2, r4⟩⟩
end
/-- a fact of ours -/
inductive Fx where
  /-- a name of the module: this data -/
  | con (x : String) (d : D)
  /-- isinstance's answer -/
  | kit (t u : TN) (b : Bool)
  /-- an own class whose instances isinstance is asked of -/
  | insT (C : String)
  /-- a class's constant -/
  | ccon (C f : String) (d : D)
  /-- what the text of ours asks besides -/
  | raw (q : PySem.W.Frag → Bool)
def Fx.ok (K : PySem.W.Frag) : Fx → Bool
  | .con x d => (match PySem.W.nsIn K mainGlobals (Str.ofString x) with
    | some (some u) => relDK K d u
    | _ => false)
  | .kit t u b => decide (PySem.W.kitOne K (tnV K t) (tnV K u) = some b)
  | .insT C => (He.Fa.cls (Str.ofString C)).ok K && (He.eqO (PySem.W.findIn K (.ref (cad K C)) "__class__") (some (some (.builtin "object.__class__"))) && (He.eqO (PySem.W.specialIn K (.builtin "object.__class__") "__get__") (some (some (.builtin "getset_descriptor.__get__"))) &&
      (decide (PySem.W.takesIn K (.builtin "object.__class__") = some true) && decide (PySem.W.mroIn K (cad K C) (.type "object") = some true))))
  | .ccon C f d => (match PySem.W.findIn K (.ref (cad K C)) (Str.ofString f) with
    | some (some u) => relDK K d u && (He.eqO (PySem.W.specialIn K u "__get__") (some none) && !PySem.W.copiedNames.contains (Str.ofString f))
    | _ => false)
  | .raw q => q K
abbrev AlF : Type := He.AlD × Bool
/-- the addresses that are looked at -/
def asF (g : Addr → Option Obj) (n : Nat) : List Addr := He.asD g n ++ [cStatics]
def obsF (n : Nat) (fa : List He.Fa) (fn : List He.DefD) (fx : List Fx) (g : Addr → Option Obj) : AlF := (He.obsD fa fn (He.frG g (asF g n)), fx.all fun f => f.ok (He.frG g (asF g n)))
structure SaysF (fa : List He.Fa) (fn : List He.DefD) (fx : List Fx) (K : PySem.W.Frag) : Prop where
  d : He.SaysD fa fn K
  x : (fx.all fun f => f.ok K) = true
def hookF (n : Nat) (fa : List He.Fa) (fn : List He.DefD) (fx : List Fx) : PySem.W.Hook where
  α := AlF
  obs := fun s => obsF n fa fn fx s.heap.get?
  val := fun _ => (He.valD fn, true)
  says := fun _ h => ∃ K : PySem.W.Frag, K.In h ∧ SaysF fa fn fx K
  of := fun _ _ e => ⟨_, He.frG_in, ⟨congrArg (fun z : AlF => z.1) e, congrArg (fun z : AlF => z.2) e⟩⟩
  keeps := fun _ _ _ ⟨K, hK, c⟩ k => ⟨K, PySem.W.Frag.In.keeps hK k, c⟩
theorem obsF_eq {n : Nat} {fa : List He.Fa} {fn : List He.DefD} {fx : List Fx} {g : Addr → Option Obj} {s : Shared} (h : ∀ a, g a = s.heap.get? a) : obsF n fa fn fx g = (hookF n fa fn fx).obs s := by
  have e : g = s.heap.get? := funext h
  rw [e]
  rfl
section
variable {fa : List He.Fa} {fn : List He.DefD} {fx : List Fx} {K : PySem.W.Frag} {h : Heap} {mg : Str → Option Value}
theorem SaysF.get (c : SaysF fa fn fx K) (i : Nat) {f : Fx} (e : fx[i]? = some f := by rfl) : f.ok K = true := List.all_eq_true.mp c.x f (List.mem_of_getElem? e)
theorem glb_con (X : K.In h) (G : h.Ns mainGlobals mg) {x : String} {d : D} (c : (Fx.con x d).ok K = true) : Glb K mg (Str.ofString x) d := by
  have c2 : (match PySem.W.nsIn K mainGlobals (Str.ofString x) with
    | some (some u) => relDK K d u
    | _ => false) = true := c
  cases e : PySem.W.nsIn K mainGlobals (Str.ofString x) with
  | none => rw [e] at c2; cases c2
  | some o =>
    rw [e] at c2
    cases o with
    | none => cases c2
    | some u =>
      obtain ⟨v, r1, r2⟩ := relDK_ok (I := fun _ => none) d u c2
      exact ⟨u, v, PySem.W.mg_of X G e, r1, r2⟩
theorem kit_ok {t u : TN} {b : Bool} (c : (Fx.kit t u b).ok K = true) : PySem.W.kitOne K (tnV K t) (tnV K u) = some b := of_decide_eq_true c
theorem insT_ok {C : String} (c : (Fx.insT C).ok K = true) : InsTy K (cad K C) := by
  obtain ⟨h1, h2⟩ := and_tt c
  obtain ⟨h3, h4⟩ := and_tt h2
  obtain ⟨h5, h6⟩ := and_tt h4
  obtain ⟨h7, h8⟩ := and_tt h6
  exact ⟨He.cls_ok h1, He.eqO_ok h3, He.eqO_ok h5, of_decide_eq_true h7, of_decide_eq_true h8⟩
theorem ccon_ok {C f : String} {d : D} (c : (Fx.ccon C f d).ok K = true) : ∃ u v, Con K (cad K C) (Str.ofString f) v u ∧ R K (fun _ => none) d v := by
  have c2 : (match PySem.W.findIn K (.ref (cad K C)) (Str.ofString f) with
    | some (some u) => relDK K d u && (He.eqO (PySem.W.specialIn K u "__get__") (some none) && !PySem.W.copiedNames.contains (Str.ofString f))
    | _ => false) = true := c
  cases e : PySem.W.findIn K (.ref (cad K C)) (Str.ofString f) with
  | none => rw [e] at c2; cases c2
  | some o =>
    rw [e] at c2
    cases o with
    | none => cases c2
    | some u =>
      obtain ⟨h1, h2⟩ := and_tt c2
      obtain ⟨h3, h4⟩ := and_tt h2
      obtain ⟨v, r1, r2⟩ := relDK_ok (I := fun _ => none) d u h1
      exact ⟨u, v, ⟨e, r1, He.eqO_ok h3, by simpa using h4⟩, r2⟩
end
/-- a scope from its names: 0 local, 1 cell, 2 free, 3 a name of the module's -/
def kindNo : Nat → NameKind
  | 0 => .local
  | 1 => .cell
  | 2 => .free
  | _ => .globalImplicit
def mkSc (l : List (String × Nat)) : Scope := { kind := .function, names := l.map fun p => (Str.ofString p.1, kindNo p.2), isGenerator := false, isCoroutine := false }
theorem dfn_mk {P : Program} {w : World} {K : PySem.W.Frag} {mg : Str → Option Value} {base : Heap} {k : Nat} {qual : Str} {params : Arguments} {body : List Stmt} {scope : Scope} {fd : FuncData} {x : String} {N ps : List Str} {c : MS} {f : Addr}
    (F : FunD K (Str.ofString x) qual params body scope [] [] f fd) (S : FnScope N ps scope) (hm : mg (Str.ofString x) = some (.ref f))
    (hbn : ∀ (kV doc pm : Value) (an : Option Addr) (cdv ct : Value) (us : List Value), us.length = ps.length → bindArgs (PySem.W.fnOf (Str.ofString x) qual params body scope .none kV doc pm an cdv ct) ⟨us, []⟩ = pure (ps.zip us))
    (hb : ∀ (cdv : Value) (A : Around) (outer : List Env) (s : Shared) (H : Hp) (E : XK), Room k (A.deeper (PyProof.Rows.envOfC qual scope s.heap.objs.size f cdv)) → SB (cxOf (L2.CX P w) P w K mg base N qual scope f cdv A outer s H E) (wDef E) body c) :
    Dfn P w K mg base x (k + 1) (mkF ps.length N.length c) [] :=
  ⟨f, fd, ps, [], [], fn_ok F S hb, hm, F.kp, F.bindsN hbn, .nil, Rs_nil.mpr rfl⟩
theorem dfn_zero {P : Program} {w : World} {K : PySem.W.Frag} {mg : Str → Option Value} {base : Heap} {k : Nat} {qual : Str} {params : Arguments} {body : List Stmt} {scope : Scope} {fd : FuncData} {x : String} {N ps : List Str} {f : Addr}
    (F : FunD K (Str.ofString x) qual params body scope [] [] f fd) (S : FnScope N ps scope) (hm : mg (Str.ofString x) = some (.ref f))
    (hbn : ∀ (kV doc pm : Value) (an : Option Addr) (cdv ct : Value) (us : List Value), us.length = ps.length → bindArgs (PySem.W.fnOf (Str.ofString x) qual params body scope .none kV doc pm an cdv ct) ⟨us, []⟩ = pure (ps.zip us)) :
    Dfn P w K mg base x k (fun _ => none) [] :=
  ⟨f, fd, ps, [], [], ⟨fun vs H Q E h => by obtain ⟨_, _, _, _, h⟩ := h; exact h.elim, fun A outer s H args us vs Q E hr he hb hv h => by obtain ⟨_, _, _, _, h⟩ := h; exact h.elim⟩, hm, F.kp, F.bindsN hbn, .nil, Rs_nil.mpr rfl⟩
end FL
set_option Elab.async false
set_option linter.all false
set_option maxRecDepth 100000
namespace FL
open PySem
open PySem.Spec
open L2
theorem wipe_get (σ : St) : ∀ (vs : List Nat) (j : Nat), (wipe σ vs)[j]? = if j ∈ vs then (if j < σ.length then some none else none) else σ[j]?
  | [], j => by simp [wipe]
  | v :: vs, j => by
    unfold wipe
    by_cases h : v = j
    · subst h
      rw [if_pos List.mem_cons_self]
      by_cases hl : v < σ.length
      · rw [if_pos hl, List.getElem?_set_self (by rw [wipe_length]; exact hl)]
      · rw [if_neg hl, List.getElem?_eq_none (by rw [List.length_set, wipe_length]; omega)]
    · rw [List.getElem?_set_ne h, wipe_get σ vs j]
      have : j ∈ v :: vs ↔ j ∈ vs := by simp [Ne.symm h]
      simp only [this]
theorem wipe_set {σ : St} {i : Nat} {x : Option V} {vs : List Nat} (h : i ∈ vs) : wipe (σ.set i x) vs = wipe σ vs := by
  apply List.ext_getElem?
  intro j
  rw [wipe_get, wipe_get, List.length_set]
  by_cases hj : j ∈ vs
  · rw [if_pos hj, if_pos hj]
  · rw [if_neg hj, if_neg hj, List.getElem?_set_ne (fun z => hj (by rw [← z]; exact h))]
theorem wipe_wipe {σ : St} {vs : List Nat} : wipe (wipe σ vs) vs = wipe σ vs := by
  apply List.ext_getElem?
  intro j
  rw [wipe_get, wipe_get, wipe_length]
  by_cases hj : j ∈ vs
  · rw [if_pos hj, if_pos hj]
  · rw [if_neg hj, if_neg hj]
def SG (X : Cx) (tgt : Expr) (gs : D → Ev → Option Ev) (ts : List Nat) : Prop := ∃ g, PG X tgt g ∧ ∀ (σ : St) (ev ev' : Ev) (I H : Hp) (v : V) (d : D) (Q : St → Hp → Prop), Rel X.K σ ev I H → R X.K I d v → gs d ev = some ev' →
  (∀ σ', Step σ ev I H σ' ev' I H → Rel X.K σ' ev' I H → (∀ vs : List Nat, (∀ t ∈ ts, t ∈ vs) → wipe σ' vs = wipe σ vs) → Q σ' H) → g v σ H Q
def SGs (X : Cx) (tgts : List Expr) (gs : List D → Ev → Option Ev) (ts : List Nat) : Prop := ∃ g, PGs X tgts g ∧ ∀ (σ : St) (ev ev' : Ev) (I H : Hp) (vs : List V) (ds : List D) (Q : St → Hp → Prop), Rel X.K σ ev I H → Rs X.K I ds vs → gs ds ev = some ev' →
  (∀ σ', Step σ ev I H σ' ev' I H → Rel X.K σ' ev' I H → (∀ us : List Nat, (∀ t ∈ ts, t ∈ us) → wipe σ' us = wipe σ us) → Q σ' H) → g vs σ H Q
section
variable {X : Cx} {W : WX} {e : Expr} {es : List Expr} {pos p : Pos} {x : Str}
theorem sg_name (i : Nat) (hN : X.N.Nodup) (hi : X.N[i]? = some x) (hx : Loc X.env.scope x) (hf : X.fn x = true ∨ X.env.scope.names.lookup x = some .local) : SG X (.Name x p) (setD i) [i] :=
  ⟨_, pg_name hN hi hx hf, fun σ ev ev' I H v d Q rel rv e k => by
    obtain ⟨s, r⟩ := set_data rel e rv
    exact k _ s r fun vs hv => wipe_set (hv i (List.mem_singleton.mpr rfl))⟩
def gsNil : List D → Ev → Option Ev
  | [], ev => some ev
  | _, _ => none
def gsCons (g : D → Ev → Option Ev) (gs : List D → Ev → Option Ev) : List D → Ev → Option Ev
  | d :: ds, ev => match g d ev with
    | some ev1 => gs ds ev1
    | none => none
  | _, _ => none
theorem sgs_nil : SGs X [] gsNil [] := ⟨_, pgs_nil, fun σ ev ev' I H vs ds Q rel rs e k => by
  cases ds with
  | nil =>
    cases e
    exact ⟨Rs_nil.mp rs, k σ (Step.refl ..) rel fun _ _ => rfl⟩
  | cons => cases e⟩
theorem sgs_cons {g : D → Ev → Option Ev} {gs : List D → Ev → Option Ev} {t u : List Nat} (h1 : SG X e g t) (h2 : SGs X es gs u) (hs : (assignEach (e :: es) X.env).map (·.2) = assign e X.env :: (assignEach es X.env).map (·.2) := by rfl) :
    SGs X (e :: es) (gsCons g gs) (t ++ u) := by
  obtain ⟨tg, pg, sg⟩ := h1
  obtain ⟨tr, pr, sr⟩ := h2
  refine ⟨_, pgs_cons pg pr hs, fun σ ev ev' I H vs ds Q rel rs e k => ?_⟩
  cases ds with
  | nil => cases e
  | cons d ds =>
    obtain ⟨v, r, rfl, h3, h4⟩ := Rs_cons.mp rs
    simp only [gsCons] at e
    cases q : g d ev with
    | none => rw [q] at e; cases e
    | some ev1 =>
      rw [q] at e
      refine ⟨v, r, rfl, sg σ ev ev1 I H v d _ rel h3 q fun σ1 s1 r1 w1 => ?_⟩
      refine sr σ1 ev1 ev' I H r ds Q r1 h4 e fun σ2 s2 r2 w2 => k σ2 (s1.trans s2) r2 fun us hu => ?_
      rw [w2 us fun t ht => hu t (List.mem_append_right _ ht), w1 us fun t ht => hu t (List.mem_append_left _ ht)]
def gsTup (n : Nat) (gs : List D → Ev → Option Ev) : D → Ev → Option Ev
  | .tup ds, ev => if ds.length = n then gs ds ev else none
  | _, _ => none
theorem sg_tup {gs : List D → Ev → Option Ev} {ts : List Nat} {k n : Nat} (hc : X.calm = true) (h : SGs X es gs ts) (hn : (assignEach es X.env).length = n) (hst : (assignEach es X.env).findIdx? (·.1) = none := by rfl) : SG X (.Tuple es k pos) (gsTup n gs) ts := by
  obtain ⟨t, p, s⟩ := h
  refine ⟨_, pg_tup hc p hn hst, fun σ ev ev' I H v d Q rel rv e k => ?_⟩
  cases d with
  | tup ds =>
    obtain ⟨a, vs, rfl, h1, h2⟩ := R_tup.mp rv
    simp only [gsTup] at e
    by_cases hl : ds.length = n
    · rw [if_pos hl] at e
      exact ⟨a, vs, rfl, rel.sub.sqT h1, by rw [← h2.length]; exact hl, s σ ev ev' I H vs ds Q rel h2 e k⟩
    · rw [if_neg hl] at e
      cases e
  | _ => cases e
/-- a target that is no single name -/
def sAsg (gs : D → Ev → Option Ev) (ca : M D) : MS := sE ca fun d => sOpt (gs d)
theorem ss_asg {tgt : Expr} {gs : D → Ev → Option Ev} {ts : List Nat} {ca : M D} (hg : SG X tgt gs ts) (ha : SE X W e ca)
    (hs : swapsWithSole [tgt] e pos.line X.env = pure false := by rfl) (hw : swappedStores [tgt] e X.env = pure none := by rfl) (h1 : (assignEach [tgt] X.env).map (·.2) = [assign tgt X.env] := by rfl) : SS X W (.Assign [tgt] e pos) (sAsg gs ca) := by
  obtain ⟨g, pg, sg⟩ := hg
  obtain ⟨ta, pa, sa⟩ := ha
  refine ⟨_, ps_asg pa pg hs hw h1, fun σ ev I H D rel h => ?_⟩
  refine sa σ ev I H _ rel (h.expr.imp fun d ev1 I1 H1 s1 r1 h2 v rv => ?_)
  obtain ⟨ev2, e, k⟩ := h2.opt
  exact sg σ ev1 ev2 I1 H1 v d _ r1 rv e fun σ' s' r' _ => k σ' I1 H1 s' r'
/-- a, b = x, y -/
def sPar (i j : Nat) (ca : M (List D)) : MS := sE ca fun ds => sOpt fun ev => match ds with
  | [d1, d2] => (setD i d1 ev).bind (setD j d2)
  | _ => none
theorem ss_par {i j : Nat} {x y : Str} {a b : Expr} {ca : M (List D)} {px py pt : Pos} {kt k2 pt2} (hc : X.calm = true) (hN : X.N.Nodup) (hi : X.N[i]? = some x) (hj : X.N[j]? = some y) (hij : i ≠ j)
    (hx : X.env.scope.names.lookup x = some .local) (hy : X.env.scope.names.lookup y = some .local) (ha : SA X W [a, b] ca)
    (hw : swappedStores [.Tuple [.Name x px, .Name y py] kt pt] (.Tuple [a, b] k2 pt2) X.env = pure (some [x, y]))
    (hs : swapsWithSole [.Tuple [.Name x px, .Name y py] kt pt] (.Tuple [a, b] k2 pt2) pos.line X.env = pure false := by rfl) : SS X W (.Assign [.Tuple [.Name x px, .Name y py] kt pt] (.Tuple [a, b] k2 pt2) pos) (sPar i j ca) := by
  obtain ⟨ta, pa, sa⟩ := ha
  refine ⟨_, ps_par hc hN hi hj hij hx hy pa hw hs, fun σ ev I H D rel h => ?_⟩
  refine sa σ ev I H _ rel (h.expr.imp fun ds ev1 I1 H1 s1 r1 h2 vs rs => ?_)
  obtain ⟨ev3, e, k⟩ := h2.opt
  split at e
  · rename_i d1 d2
    obtain ⟨v, w, rfl, q1, q2⟩ := rs.two
    obtain ⟨ev2, e1, e2⟩ := Option.bind_eq_some_iff.mp e
    obtain ⟨s2, r2⟩ := set_data r1 e1 q1
    obtain ⟨s3, r3⟩ := set_data r2 e2 q2
    exact ⟨v, w, rfl, k _ _ _ (s2.trans s3) r3⟩
  · cases e
def ItOk (K : PySem.W.Frag) (J : It) (xs : List D) (I : Hp) : Prop := ∀ (I' H' : Hp), Le I I' → Le I' H' →
  (∀ (i : Nat) (d : D), xs[i]? = some d → J.go i H' ∧ ∀ v H'', J.yld i H' v H'' → ∃ I'', Ex I' H' I'' H'' ∧ R K I'' d v) ∧ J.stop xs.length H'
theorem ItOk.mono {K : PySem.W.Frag} {J : It} {xs : List D} {I I1 : Hp} (h : ItOk K J xs I) (l : Le I I1) : ItOk K J xs I1 := fun I' H' l1 l2 => h I' H' (l.trans l1) l2
def SI (X : Cx) (W : WX) (tg iter : Expr) (c : M (List D)) : Prop := ∃ wi, PI X tg iter wi ∧ ∀ (σ : St) (ev : Ev) (I H : Hp) (Q : It → Hp → Prop), Rel X.K σ ev I H → Post X.K W c σ ev I H (fun xs _ I' H' => ∀ J, ItOk X.K J xs I' → Q J H') → wi σ H Q
theorem PI.or {tg iter : Expr} {wi wi' : TI} (h : PI X tg iter wi) (h' : PI X tg iter wi') : PI X tg iter (fun σ H Q => wi σ H Q ∨ wi' σ H Q) :=
  ⟨fun pins s σ H Q I q => q.elim (h.run pins s σ H Q I) (h'.run pins s σ H Q I)⟩
theorem itOk_list {K : PySem.W.Frag} {I : Hp} {a : Addr} {vs : List V} {xs : List D} (h : SqL K I a vs) (rs : Rs K I xs vs) : ItOk K (Itl K a) xs I := fun I' H' l1 l2 => by
  have h' := l2.sqL (l1.sqL h)
  refine ⟨fun i d e => ?_, ⟨vs, h', by rw [rs.length]; exact Nat.le_refl _⟩⟩
  obtain ⟨v, e1, r⟩ := rs.get e
  refine ⟨⟨vs, v, h', e1⟩, fun w H'' hy => ?_⟩
  obtain ⟨rfl, hy⟩ := hy
  have := hy vs h'
  rw [e1] at this
  cases this
  exact ⟨I', Ex.refl l2, R.mono l1 _ _ r⟩
theorem itOk_tup {K : PySem.W.Frag} {I : Hp} {a : Addr} {vs : List V} {xs : List D} (h : SqT K I a vs) (rs : Rs K I xs vs) : ItOk K (Itt K a) xs I := fun I' H' l1 l2 => by
  have h' := l2.sqT (l1.sqT h)
  refine ⟨fun i d e => ?_, ⟨vs, h', by rw [rs.length]; exact Nat.le_refl _⟩⟩
  obtain ⟨v, e1, r⟩ := rs.get e
  refine ⟨⟨vs, v, h', e1⟩, fun w H'' hy => ?_⟩
  obtain ⟨rfl, hy⟩ := hy
  have := hy vs h'
  rw [e1] at this
  cases this
  exact ⟨I', Ex.refl l2, R.mono l1 _ _ r⟩
/-- the items of a list or tuple -/
def itemsD : D → Option (List D)
  | .lst xs => some xs
  | .tup xs => some xs
  | _ => none
def mItems (ca : M D) : M (List D) := ca.bind fun d => M.opt (itemsD d)
theorem si_seq {tg : Expr} {ca : M D} (ha : SE X W e ca) : SI X W tg e (mItems ca) := by
  obtain ⟨ta, pa, sa⟩ := ha
  refine ⟨_, PI.or (pi_list pa) (pi_tup pa), fun σ ev I H Q rel h => ?_⟩
  -- which of both is known by the value alone
  unfold Post mItems M.bind at h
  cases q : ca ev with
  | none => rw [q] at h; exact h.elim
  | some o =>
    cases o with
    | er x ev' =>
      refine .inl (sa σ ev I H _ rel ?_)
      rw [q] at h
      unfold Post
      rw [q]
      exact h
    | ok d ev1 =>
      rw [q] at h
      dsimp only [M.opt] at h
      cases d with
      | lst xs =>
        refine .inl (sa σ ev I H _ rel ?_)
        unfold Post
        rw [q]
        intro I1 H1 s1 r1 v rv
        obtain ⟨a, vs, rfl, h1, h2⟩ := R_lst.mp rv
        exact ⟨a, rfl, ⟨vs, r1.sub.sqL h1⟩, h I1 H1 s1 r1 _ (itOk_list h1 h2)⟩
      | tup xs =>
        refine .inr (sa σ ev I H _ rel ?_)
        unfold Post
        rw [q]
        intro I1 H1 s1 r1 v rv
        obtain ⟨a, vs, rfl, h1, h2⟩ := R_tup.mp rv
        exact ⟨a, rfl, ⟨vs, r1.sub.sqT h1⟩, h I1 H1 s1 r1 _ (itOk_tup h1 h2)⟩
      | _ => exact h.elim
theorem itOk_rng {K : PySem.W.Frag} {I : Hp} {lo : Int} {n : Nat} : ItOk K (Itr lo n) ((List.range n).map fun (i : Nat) => D.int (lo + (i : Int))) I := fun I' H' l1 l2 => by
  refine ⟨fun i d e => ?_, by simp [Itr]⟩
  rw [List.getElem?_map] at e
  by_cases hi : i < n
  · rw [List.getElem?_range hi] at e
    cases e
    refine ⟨hi, fun w H'' hy => ?_⟩
    obtain ⟨rfl, rfl⟩ := hy
    exact ⟨I', Ex.refl l2, R_int.mpr rfl⟩
  · rw [List.getElem?_eq_none (by simpa using hi)] at e
    cases e
def rng1 : List D → Option (List D)
  | [.int j] => if -(2 ^ 62) ≤ j ∧ j < 2 ^ 62 then some ((List.range j.toNat).map fun (i : Nat) => D.int (0 + (i : Int))) else none
  | _ => none
def rng2 : List D → Option (List D)
  | [.int i, .int j] => if -(2 ^ 62) ≤ i ∧ i < 2 ^ 62 ∧ -(2 ^ 62) ≤ j ∧ j < 2 ^ 62 then some ((List.range (j - i).toNat).map fun (k : Nat) => D.int (i + (k : Int))) else none
  | _ => none
def mRng (g : List D → Option (List D)) (ca : M (List D)) : M (List D) := ca.bind fun ds => M.opt (g ds)
theorem si_rng1 {tg : Expr} {ca : M (List D)} (hm : X.mg "range" = none) (hg : Gl X "range") (ha : SA X W [e] ca) (hs : starEach [e] X.env = [(false, eval e X.env)] := by rfl) : SI X W tg (.Call (.Name "range" p) [e] [] pos) (mRng rng1 ca) := by
  obtain ⟨ta, pa, sa⟩ := ha
  refine ⟨_, pi_range1 hg hm pa hs, fun σ ev I H Q rel h => ?_⟩
  refine sa σ ev I H _ rel ((Post.bind h).imp fun ds ev1 I1 H1 s1 r1 h1 vs rs => ?_)
  obtain ⟨xs, e, k⟩ := Post.opt h1
  unfold rng1 at e
  split at e
  · split at e
    · rename_i hb
      cases e
      obtain ⟨v, rfl, h2⟩ := rs.one
      rw [R_int.mp h2]
      exact ⟨_, rfl, hb.1, hb.2, k I1 H1 (Step.refl ..) r1 _ itOk_rng⟩
    · cases e
  · cases e
theorem si_rng2 {a b tg : Expr} {ca : M (List D)} (hm : X.mg "range" = none) (hg : Gl X "range") (ha : SA X W [a, b] ca) (hs : starEach [a, b] X.env = [(false, eval a X.env), (false, eval b X.env)] := by rfl) (hs2 : starEach [b] X.env = [(false, eval b X.env)] := by rfl) :
    SI X W tg (.Call (.Name "range" p) [a, b] [] pos) (mRng rng2 ca) := by
  obtain ⟨ta, pa, sa⟩ := ha
  refine ⟨_, pi_range2 hg hm pa hs hs2, fun σ ev I H Q rel h => ?_⟩
  refine sa σ ev I H _ rel ((Post.bind h).imp fun ds ev1 I1 H1 s1 r1 h1 vs rs => ?_)
  obtain ⟨xs, e, k⟩ := Post.opt h1
  unfold rng2 at e
  split at e
  · split at e
    · rename_i hb
      cases e
      obtain ⟨v, w, rfl, h2, h3⟩ := rs.two
      rw [R_int.mp h2, R_int.mp h3]
      exact ⟨_, _, rfl, hb, k I1 H1 (Step.refl ..) r1 _ itOk_rng⟩
    · cases e
  · cases e
/-- a loop's turn, then the rest -/
def turnL (o : Option OS) (rest : MS) : Option OS := match o with
  | some (.nx ev2) => rest ev2
  | some (.ct ev2) => rest ev2
  | some (.bk ev2) => some (.nx ev2)
  | o => o
theorem turnL_post {K : PySem.W.Frag} {W : WX} {body rest : MS} {σ : St} {ev : Ev} {I H : Hp} {En : Ends} {N : St → Hp → Prop} (h : PostS K W (fun ev => turnL (body ev) rest) σ ev I H En)
    (hN : ∀ σ2 ev2 I2 H2, Step σ ev I H σ2 ev2 I2 H2 → Rel K σ2 ev2 I2 H2 → PostS K W rest σ2 ev2 I2 H2 En → N σ2 H2) : PostS K W body σ ev I H { En with nx := N, ct := N, bk := En.nx } := by
  have h2 := h
  unfold PostS at h
  unfold PostS
  dsimp only at h
  cases q2 : body ev with
  | none => rw [q2] at h; exact h
  | some o =>
    rw [q2] at h
    cases o with
    | nx ev2 => exact fun σ2 I2 H2 s2 r2 => hN σ2 ev2 I2 H2 s2 r2 (h2.on s2 (by rw [q2]; rfl))
    | ct ev2 => exact fun σ2 I2 H2 s2 r2 => hN σ2 ev2 I2 H2 s2 r2 (h2.on s2 (by rw [q2]; rfl))
    | bk ev2 => exact h
    | rt r ev2 => exact h
    | er x ev2 => exact h
def forL (gs : D → Ev → Option Ev) (body : MS) : List D → MS
  | [], ev => some (.nx ev)
  | x :: xs, ev => match gs x ev with
    | none => none
    | some ev1 => turnL (body ev1) (forL gs body xs)
theorem forL_cons (gs : D → Ev → Option Ev) (body : MS) (x : D) (xs : List D) (ev : Ev) : forL gs body (x :: xs) ev = match gs x ev with
    | none => none
    | some ev1 => turnL (body ev1) (forL gs body xs) := rfl
def sFor (gs : D → Ev → Option Ev) (ci : M (List D)) (body : MS) : MS := sE ci fun xs => forL gs body xs
theorem PostS.forC {K : PySem.W.Frag} {gs : D → Ev → Option Ev} {body : MS} {x : D} {xs : List D} {σ : St} {ev : Ev} {I H : Hp} {En : Ends} (h : PostS K W (forL gs body (x :: xs)) σ ev I H En) :
    ∃ ev1, gs x ev = some ev1 ∧ ∀ σ1 I1 H1 (N : St → Hp → Prop), Step σ ev I H σ1 ev1 I1 H1 → (∀ σ2 ev2 I2 H2, Step σ1 ev1 I1 H1 σ2 ev2 I2 H2 → Rel K σ2 ev2 I2 H2 → PostS K W (forL gs body xs) σ2 ev2 I2 H2 En → N σ2 H2) →
      PostS K W body σ1 ev1 I1 H1 { En with nx := N, ct := N, bk := En.nx } := by
  cases q : gs x ev with
  | none =>
    unfold PostS at h
    rw [forL_cons, q] at h
    exact h.elim
  | some ev1 =>
    refine ⟨ev1, rfl, fun σ1 I1 H1 N s1 hN => ?_⟩
    refine turnL_post (rest := forL gs body xs) (h.on s1 ?_) hN
    rw [forL_cons, q]
theorem ss_for {tg iter : Expr} {body : List Stmt} {gs : D → Ev → Option Ev} {ts : List Nat} {ci : M (List D)} {cb : MS} (hp : PassesOwn (model X.prog X.w) X.A X.env X.xe) (hc : X.calm = true) (hi : SI X W tg iter ci) (hg : SG X tg gs ts) (hb : SB X W body cb)
    (hs : ∀ x, foldedSetIterable iter X.env x = pure x := by intro _; rfl) : SS X W (.For tg iter body [] pos) (sFor gs ci cb) := by
  obtain ⟨wi, pi, si⟩ := hi
  obtain ⟨g, pg, sg⟩ := hg
  obtain ⟨tb, pb, sb⟩ := hb
  refine ⟨_, ps_for hp hc pi pg pb hs, fun σ ev I H En rel h => ?_⟩
  refine si σ ev I H _ rel (h.expr.imp fun xs ev0 I0 H0 s0 r0 h0 J hJ => ?_)
  refine ⟨fun i m σ H => ∃ ev I, m = xs.length - i ∧ i ≤ xs.length ∧ Rel X.K σ ev I H ∧ Le I0 I ∧ PostS X.K W (forL gs cb (xs.drop i)) σ ev I H En, ⟨xs.length, ev0, I0, rfl, Nat.zero_le _, r0, Le.refl _, h0⟩, ?_⟩
  rintro i m σ1 H1 ⟨ev1, I1, rfl, hi, r1, l1, h1⟩
  obtain ⟨turn, stop⟩ := hJ I1 H1 l1 r1.sub
  by_cases hlt : i < xs.length
  · have hxi : xs[i]? = some xs[i] := List.getElem?_eq_getElem hlt
    obtain ⟨go, yl⟩ := turn i _ hxi
    rw [List.drop_eq_getElem_cons hlt] at h1
    obtain ⟨ev2, e2, h2⟩ := h1.forC
    refine .inr ⟨go, fun σ' H' => ∃ ev I, Rel X.K σ' ev I H' ∧ Le I0 I ∧ PostS X.K W (forL gs cb (xs.drop (i + 1))) σ' ev I H' En, fun σ' H' ⟨ev', I', q1, q2, q3⟩ => ⟨xs.length - (i + 1), by omega, ev', I', rfl, hlt, q1, q2, q3⟩, fun v H' hy => ?_⟩
    obtain ⟨I', ex, rv⟩ := yl v H' hy
    refine sg σ1 ev1 ev2 I' H' v xs[i] _ (r1.ex ex) rv e2 fun σ2 s2 r2 _ => ?_
    refine sb σ2 ev2 I' H' _ r2 (h2 σ2 I' H' _ (ex.step.trans s2) fun σ3 ev3 I3 H3 s3 r3 h3 => ⟨ev3, I3, r3, ?_, h3⟩)
    exact l1.trans (ex.le.trans s3.le)
  · have ei : i = xs.length := by omega
    subst ei
    rw [List.drop_length] at h1
    exact .inl ⟨stop, h1.nx rfl σ1 I1 H1 (Step.refl ..) r1⟩
def whileT (n : Ev → Option OS) (ct : M Bool) (body : MS) : MS := fun ev => match ct ev with
  | none => none
  | some (.er e ev') => some (.er e ev')
  | some (.ok b ev') => if b = true then turnL (body ev') n else some (.nx ev')
def whileL (ct : M Bool) (body : MS) : Nat → MS
  | 0 => fun _ => none
  | n + 1 => whileT (whileL ct body n) ct body
theorem whileL_succ (ct : M Bool) (body : MS) (n : Nat) : whileL ct body (n + 1) = whileT (whileL ct body n) ct body := rfl
theorem ss_while {c : Expr} {body : List Stmt} {ct : M Bool} {cb : MS} (n : Nat) (hp : PassesOwn (model X.prog X.w) X.A X.env X.xe) (hc : STt X W c ct) (hb : SB X W body cb) : SS X W (.While c body [] pos) (whileL ct cb n) := by
  obtain ⟨tc, pc, sc⟩ := hc
  obtain ⟨tb, pb, sb⟩ := hb
  refine ⟨_, ps_while hp pc pb, fun σ ev I H En rel h => ?_⟩
  refine ⟨fun m σ H => ∃ ev I, Rel X.K σ ev I H ∧ PostS X.K W (whileL ct cb m) σ ev I H En, ⟨n, ev, I, rel, h⟩, ?_⟩
  rintro m σ1 H1 ⟨ev1, I1, r1, h1⟩
  cases m with
  | zero => exact h1.elim
  | succ m =>
    rw [whileL_succ] at h1
    have h0 := h1
    refine sc σ1 ev1 I1 H1 _ r1 ?_
    unfold PostS whileT at h1
    unfold Post
    cases q : ct ev1 with
    | none => rw [q] at h1; exact h1
    | some o =>
      rw [q] at h1
      cases o with
      | er x ev2 => exact fun I' H' dd s r xd => h1 σ1 I' H' dd s r xd
      | ok b ev2 =>
        cases b with
        | false =>
          intro I2 H2 s2 r2
          rw [if_neg Bool.false_ne_true]
          exact h1 σ1 I2 H2 s2 r2
        | true =>
          intro I2 H2 s2 r2
          rw [if_pos rfl]
          refine ⟨fun σ' H' => ∃ ev I, Rel X.K σ' ev I H' ∧ PostS X.K W (whileL ct cb m) σ' ev I H' En, fun σ' H' z => ⟨m, Nat.lt_succ_self m, z⟩, sb σ1 ev2 I2 H2 _ r2 ?_⟩
          refine turnL_post (rest := whileL ct cb m) (h0.on s2 ?_) fun σ3 ev3 I3 H3 s3 r3 h3 => ⟨ev3, I3, r3, h3⟩
          unfold whileT
          rw [q]
          rfl
end
end FL
set_option Elab.async false
set_option linter.all false
set_option maxRecDepth 100000
namespace FL
open PySem
open PySem.Spec
open L2
def tOf (K : PySem.W.Frag) (W : WX) (c : M D) : TE := fun σ H Q => ∃ ev I, Rel K σ ev I H ∧ Post K W c σ ev I H (RG K Q)
def ttOf (K : PySem.W.Frag) (W : WX) (c : M Bool) : TT := fun σ H Q => ∃ ev I, Rel K σ ev I H ∧ Post K W c σ ev I H fun b _ _ H' => Q b H'
def gOf (K : PySem.W.Frag) (gs : D → Ev → Option Ev) (ts : List Nat) : TG := fun v σ H Q => ∃ ev I d ev', Rel K σ ev I H ∧ R K I d v ∧ gs d ev = some ev' ∧
  ∀ σ', Step σ ev I H σ' ev' I H → Rel K σ' ev' I H → (∀ vs : List Nat, (∀ t ∈ ts, t ∈ vs) → wipe σ' vs = wipe σ vs) → Q σ' H
theorem pe_of {X : Cx} {W : WX} {e : Expr} {c : M D} (h : SE X W e c) : PE X e (tOf X.K W c) := by
  obtain ⟨t, p, s⟩ := h
  exact ⟨fun pins st σ H Q I ⟨ev, J, r, q⟩ => p.run pins st σ H Q I (s σ ev J H Q r q)⟩
theorem pt_of {X : Cx} {W : WX} {e : Expr} {c : M Bool} (h : STt X W e c) : PT X e (ttOf X.K W c) := by
  obtain ⟨t, p, s⟩ := h
  exact ⟨fun pins st σ H Q I ⟨ev, J, r, q⟩ => p.run pins st σ H Q I (s σ ev J H Q r q)⟩
theorem pg_of {X : Cx} {tgt : Expr} {gs : D → Ev → Option Ev} {ts : List Nat} (h : SG X tgt gs ts) : PG X tgt (gOf X.K gs ts) := by
  obtain ⟨g, p, s⟩ := h
  exact ⟨fun pins st σ H v u Q I r ⟨ev, J, d, ev', q1, q2, q3, q4⟩ => p.run pins st σ H v u Q I r (s σ ev ev' J H v d Q q1 q2 q3 q4)⟩
/-- the tests of a comprehension -/
def STs (X : Cx) (ifs : List Expr) (c : M Bool) : Prop := PTs X ifs (ttOf X.K (fun _ _ _ _ => False) c)
theorem sts_nil {X : Cx} : STs X [] (M.ret true) := ⟨fun pins st σ H Q I ⟨ev, J, r, q⟩ => (pts_nil (X := X)).run pins st σ H Q I (Post.ret (α := Bool) r q)⟩
theorem sts_one {X : Cx} {e : Expr} {c : M Bool} (h : STt X (fun _ _ _ _ => False) e c) : STs X [e] c := pts_one (pt_of h)
def wipeE (ev : Ev) : List Nat → Ev
  | [] => ev
  | v :: vs => (wipeE ev vs).set v none
def restE (ev ev3 : Ev) : List Nat → Ev
  | [] => ev3
  | v :: vs => (restE ev ev3 vs).set v (ev.getD v none)
def noCell (ev : Ev) (vs : List Nat) : Bool := vs.all fun j => match ev[j]? with
  | some (some (.own _)) => false
  | some (some (.bor _)) => false
  | _ => true
theorem wipeE_len (ev : Ev) : ∀ vs : List Nat, (wipeE ev vs).length = ev.length
  | [] => rfl
  | v :: vs => by unfold wipeE; rw [List.length_set, wipeE_len ev vs]
theorem restE_len (ev ev3 : Ev) : ∀ vs : List Nat, (restE ev ev3 vs).length = ev3.length
  | [] => rfl
  | v :: vs => by unfold restE; rw [List.length_set, restE_len ev ev3 vs]
theorem wipeE_get (ev : Ev) : ∀ (vs : List Nat) (j : Nat) (s : SV), (wipeE ev vs)[j]? = some (some s) ↔ j ∉ vs ∧ ev[j]? = some (some s)
  | [], j, s => by simp [wipeE]
  | v :: vs, j, s => by
    unfold wipeE
    by_cases h : v = j
    · subst h
      constructor
      · intro q
        rcases set_get q with ⟨_, q⟩ | ⟨n, _⟩
        · cases q
        · exact absurd rfl n
      · rintro ⟨n, _⟩
        exact absurd (List.mem_cons_self ..) n
    · rw [List.getElem?_set_ne h, wipeE_get ev vs j s]
      simp [Ne.symm h]
theorem restE_get (ev ev3 : Ev) (hl : ev.length = ev3.length) : ∀ (vs : List Nat) (j : Nat), (restE ev ev3 vs)[j]? = if j ∈ vs then ev[j]? else ev3[j]?
  | [], j => by simp [restE]
  | v :: vs, j => by
    unfold restE
    by_cases h : v = j
    · subst h
      rw [if_pos (List.mem_cons_self ..)]
      by_cases hv : v < ev.length
      · rw [List.getElem?_set_self (by rw [restE_len]; omega), List.getElem?_eq_getElem hv]
        simp [List.getD, hv]
      · rw [List.getElem?_eq_none (by rw [List.length_set, restE_len]; omega), List.getElem?_eq_none (by omega)]
    · rw [List.getElem?_set_ne h, restE_get ev ev3 hl vs j]
      have : j ∈ v :: vs ↔ j ∈ vs := by simp [Ne.symm h]
      simp only [this]
theorem noCell_ok {ev : Ev} {vs : List Nat} (h : noCell ev vs = true) {j : Nat} (hj : j ∈ vs) {s : SV} (e : ev[j]? = some (some s)) : s.isCell = false := by
  have := List.all_eq_true.mp h j hj
  rw [e] at this
  cases s <;> first | rfl | cases this
theorem wipe_rel {K : PySem.W.Frag} {σ : St} {ev : Ev} {I H : Hp} (r : Rel K σ ev I H) (vs : List Nat) : Rel K (wipe σ vs) (wipeE ev vs) I H := by
  have g : ∀ (j : Nat), j ∉ vs → (wipe σ vs)[j]? = σ[j]? := fun j hj => by rw [wipe_get, if_neg hj]
  refine ⟨by rw [wipeE_len, wipe_length, r.len], r.sub, fun j s e => ?_, fun i j s t a e1 e2 c1 c2 g1 g2 => ?_⟩
  · obtain ⟨n, e⟩ := (wipeE_get ev vs j s).mp e
    obtain ⟨v, h1, h2⟩ := r.slot j s e
    exact ⟨v, by rw [g j n]; exact h1, h2⟩
  · obtain ⟨n1, e1⟩ := (wipeE_get ev vs i s).mp e1
    obtain ⟨n2, e2⟩ := (wipeE_get ev vs j t).mp e2
    rw [g i n1] at g1
    rw [g j n2] at g2
    exact r.sep i j s t a e1 e2 c1 c2 g1 g2
/-- back from a turn of the block -/
theorem inner_step {K : PySem.W.Frag} {σ σ2 : St} {ev ev2 ev3 : Ev} {I H I3 H3 : Hp} {vs : List Nat} (r : Rel K σ ev I H) (nc : noCell ev vs = true) (s1 : Step (wipe σ vs) (wipeE ev vs) I H σ2 ev2 I H) (hw : wipe σ2 vs = wipe σ vs)
    (s2 : Step σ2 ev2 I H σ2 ev3 I3 H3) (r2 : Rel K σ2 ev3 I3 H3) : Step σ ev I H σ (restE ev ev3 vs) I3 H3 ∧ Rel K σ (restE ev ev3 vs) I3 H3 := by
  have s := s1.trans s2
  have hl : ev.length = ev3.length := by
    have h1 := congrArg List.length hw
    rw [wipe_length, wipe_length] at h1
    rw [r.len, r2.len, h1]
  have at2 : ∀ j, j ∉ vs → σ2[j]? = σ[j]? := fun j hj => by
    have := congrArg (fun l : St => l[j]?) hw
    simpa only [wipe_get, if_neg hj] using this
  have wat : ∀ j, j ∉ vs → (wipe σ vs)[j]? = σ[j]? := fun j hj => by rw [wipe_get, if_neg hj]
  have oc : ∀ s : SV, s.isOwn = true → s.isCell = true := fun s h => by cases s <;> first | rfl | cases h
  have down : ∀ a, Own (wipe σ vs) (wipeE ev vs) a → Own σ ev a := fun a ⟨j, t, e, hc, hv⟩ => by
    obtain ⟨n, e⟩ := (wipeE_get ev vs j t).mp e
    exact ⟨j, t, e, hc, by rw [← wat j n]; exact hv⟩
  have downL : ∀ a, LOwn (wipe σ vs) (wipeE ev vs) a → LOwn σ ev a := fun a ⟨j, t, e, hc, hv⟩ => by
    obtain ⟨n, e⟩ := (wipeE_get ev vs j t).mp e
    exact ⟨j, t, e, hc, by rw [← wat j n]; exact hv⟩
  have rest : ∀ (j : Nat) (t : SV), (restE ev ev3 vs)[j]? = some (some t) → (j ∈ vs ∧ ev[j]? = some (some t) ∧ t.isCell = false) ∨ (j ∉ vs ∧ ev3[j]? = some (some t)) := fun j t e => by
    rw [restE_get ev ev3 hl] at e
    by_cases hj : j ∈ vs
    · rw [if_pos hj] at e
      exact .inl ⟨hj, e, noCell_ok nc hj e⟩
    · rw [if_neg hj] at e
      exact .inr ⟨hj, e⟩
  refine ⟨⟨fun a o h n => s.keep a o h fun w => n (down a w), s.there, s.le, fun a h1 h2 n => s.new a h1 h2 fun w => n (downL a w), fun a ⟨j, t, e, hc, hv⟩ => ?_, fun a ⟨j, t, e, hc, hv⟩ => ?_, fun j c e => ?_⟩,
    ⟨by rw [restE_len, ← hl, r.len], r2.sub, fun j t e => ?_, fun i j t t' a e1 e2 c1 c2 g1 g2 => ?_⟩⟩
  · rcases rest j t e with ⟨_, _, z⟩ | ⟨n, e'⟩
    · rw [z] at hc; cases hc
    · exact (s.own a ⟨j, t, e', hc, by rw [at2 j n]; exact hv⟩).imp (down a) id
  · rcases rest j t e with ⟨_, _, z⟩ | ⟨n, e'⟩
    · rw [oc t hc] at z; cases z
    · exact (s.lown a ⟨j, t, e', hc, by rw [at2 j n]; exact hv⟩).imp (downL a) id
  · have n : j ∉ vs := fun z => by
      have := noCell_ok nc z e
      cases this
    obtain ⟨⟨c', b1⟩, _⟩ := s.bor j c ((wipeE_get ev vs j _).mpr ⟨n, e⟩)
    exact ⟨⟨c', by rw [restE_get ev ev3 hl, if_neg n]; exact b1⟩, rfl⟩
  · rcases rest j t e with ⟨hj, e', z⟩ | ⟨n, e'⟩
    · obtain ⟨v, h1, h2⟩ := r.slot j t e'
      refine ⟨v, h1, ?_⟩
      cases t with
      | d d => exact R.mono s.le _ _ h2
      | own => cases z
      | bor => cases z
    · obtain ⟨v, h1, h2⟩ := r2.slot j t e'
      exact ⟨v, by rw [← at2 j n]; exact h1, h2⟩
  · rcases rest i t e1 with ⟨_, _, z⟩ | ⟨n1, e1'⟩
    · rw [z] at c1; cases c1
    rcases rest j t' e2 with ⟨_, _, z⟩ | ⟨n2, e2'⟩
    · rw [z] at c2; cases c2
    exact r2.sep i j t t' a e1' e2' c1 c2 (by rw [at2 i n1]; exact g1) (by rw [at2 j n2]; exact g2)
def turnC (ct : M Bool) (ce : M D) : M (Option D) := ct.bind fun b => if b = true then ce.bind fun d => M.ret (some d) else M.ret none
def inner {α : Type} (vs : List Nat) (set : Ev → Option Ev) (f : M α) : M α := fun ev => if noCell ev vs = true then (match set (wipeE ev vs) with
  | none => none
  | some ev2 => (match f ev2 with
    | some (.ok a ev3) => some (.ok a (restE ev ev3 vs))
    | _ => none)) else none
def compL (vs : List Nat) (gs : D → Ev → Option Ev) (ct : M Bool) (ce : M D) : List D → List D → M (List D)
  | [], acc => M.ret acc
  | x :: xs, acc => (inner vs (gs x) (turnC ct ce)).bind fun o => match o with
    | some d => if acc.length < sizeLine then compL vs gs ct ce xs (acc ++ [d]) else M.fail
    | none => compL vs gs ct ce xs acc
def mComp (vs : List Nat) (gs : D → Ev → Option Ev) (ct : M Bool) (ce : M D) (ci : M (List D)) : M Cell := ci.bind fun xs => (compL vs gs ct ce xs []).bind fun ds => M.ret (.lst ds)
theorem inner_some {α : Type} {vs : List Nat} {set : Ev → Option Ev} {f : M α} {ev : Ev} {o : Out α} (h : inner vs set f ev = some o) : noCell ev vs = true ∧ ∃ ev2 a ev3, set (wipeE ev vs) = some ev2 ∧ f ev2 = some (.ok a ev3) ∧ o = .ok a (restE ev ev3 vs) := by
  unfold inner at h
  by_cases nc : noCell ev vs = true
  · rw [if_pos nc] at h
    refine ⟨nc, ?_⟩
    split at h
    · cases h
    · rename_i ev2 e1
      split at h
      · rename_i a ev3 e2
        cases h
        exact ⟨ev2, a, ev3, e1, e2, rfl⟩
      · cases h
  · rw [if_neg nc] at h
    cases h
theorem compL_cons {vs : List Nat} {gs : D → Ev → Option Ev} {ct : M Bool} {ce : M D} {x : D} {xs acc : List D} {ev : Ev} {o : Out (List D)} (h : compL vs gs ct ce (x :: xs) acc ev = some o) :
    noCell ev vs = true ∧ ∃ ev2 r ev3, gs x (wipeE ev vs) = some ev2 ∧ turnC ct ce ev2 = some (.ok r ev3) ∧
      (match r with
        | some d => acc.length < sizeLine ∧ compL vs gs ct ce xs (acc ++ [d]) (restE ev ev3 vs) = some o
        | none => compL vs gs ct ce xs acc (restE ev ev3 vs) = some o) := by
  unfold compL M.bind at h
  cases q : inner vs (gs x) (turnC ct ce) ev with
  | none => rw [q] at h; cases h
  | some w =>
    obtain ⟨nc, ev2, r, ev3, e1, e2, rfl⟩ := inner_some q
    rw [q] at h
    refine ⟨nc, ev2, r, ev3, e1, e2, ?_⟩
    cases r with
    | some d =>
      dsimp only at h ⊢
      by_cases hl : acc.length < sizeLine
      · rw [if_pos hl] at h
        exact ⟨hl, h⟩
      · rw [if_neg hl] at h
        cases h
    | none => exact h
section
variable {X : Cx} {W : WX}
theorem sef_comp {elt tg iter : Expr} {ifs : List Expr} {scope : Scope} {own : List (Str × Nat)} {pos : Pos} {gs : D → Ev → Option Ev} {ts : List Nat} {ct : M Bool} {ce : M D} {ci : M (List D)} (hc : X.calm = true) (hN : X.N.Nodup) (hi : SI X W tg iter ci) (ok : BlkOk X.N X.env.scope scope own)
    (hts : ∀ t ∈ ts, t ∈ own.map (·.2))
    (hg : ∀ (s : Shared) (H : Hp) (C : Addr) (cl : List (Str × Addr)) (fp : List Addr), SG (X.blk s H scope (compEnvC scope cl C X.env) fp) tg gs ts)
    (ht : ∀ (s : Shared) (H : Hp) (C : Addr) (cl : List (Str × Addr)) (fp : List Addr), STs (X.blk s H scope (compEnvC scope cl C X.env) fp) ifs ct)
    (he : ∀ (s : Shared) (H : Hp) (C : Addr) (cl : List (Str × Addr)) (fp : List Addr), SE (X.blk s H scope (compEnvC scope cl C X.env) fp) (fun _ _ _ _ => False) elt ce) (hs : ∀ x, foldedSetIterable iter X.env x = pure x := by intro _; rfl) :
    SEF X W (.ListComp elt [⟨tg, iter, ifs, 0⟩] scope pos) (mComp (own.map (·.2)) gs ct ce ci) := by
  obtain ⟨wi, pi, si⟩ := hi
  refine ⟨_, pe_lc (g := gOf X.K gs ts) (tt := ttOf X.K (fun _ _ _ _ => False) ct) (te := tOf X.K (fun _ _ _ _ => False) ce) hc hN pi ok (fun s H C cl fp => pg_of (hg s H C cl fp)) (fun s H C cl fp => ht s H C cl fp) (fun s H C cl fp => pe_of (he s H C cl fp)) hs, fun σ ev I H Q rel h => ?_⟩
  generalize hvs : own.map (·.2) = vs at h hts
  refine si σ ev I H _ rel ((Post.bind h).imp fun xs ev1 I1 H1 s1 r1 h1 J hJ Dd hD => ?_)
  -- what the whole comes to
  obtain ⟨ds, evE, eE, kE⟩ : ∃ ds evE, compL vs gs ct ce xs [] ev1 = some (.ok ds evE) ∧ ∀ I' H', Step σ ev1 I1 H1 σ evE I' H' → Rel X.K σ evE I' H' → RF X.K σ H Q (.lst ds) evE I' H' := by
    unfold Post M.bind M.ret at h1
    cases q : compL vs gs ct ce xs [] ev1 with
    | none => rw [q] at h1; exact h1.elim
    | some o =>
      cases o with
      | ok ds evE => rw [q] at h1; exact ⟨ds, evE, rfl, h1⟩
      | er x evE =>
        exfalso
        have never : ∀ (xs acc : List D) (ev evE : Ev) (x : Err), compL vs gs ct ce xs acc ev ≠ some (.er x evE) := by
          intro xs
          induction xs with
          | nil => intro acc ev evE x z; cases z
          | cons y xs ih =>
            intro acc ev evE x z
            obtain ⟨_, ev2, r, ev3, _, _, z⟩ := compL_cons z
            cases r with
            | some d => exact ih _ _ _ _ z.2
            | none => exact ih _ _ _ _ z
        exact never _ _ _ _ _ q
  have h0 : H Dd = none := Classical.byContradiction fun z => s1.there Dd z hD
  have far : ∀ {ev' : Ev} {I' H' : Hp} {o : HO}, Step σ ev1 I1 H1 σ ev' I' H' → Step σ ev1 I1 H1 σ ev' I' (upd H' Dd o) := fun {ev' I' H' o} s => by
    refine ⟨fun a u q n => ?_, fun a q => ?_, s.le, s.new, s.own, s.lown, s.bor⟩
    · rw [upd_ne (ne_of_none q hD)]; exact s.keep a u q n
    · by_cases z : a = Dd
      · rw [z, upd_same]; exact fun z => by cases z
      · rw [upd_ne z]; exact s.there a q
  have relU : ∀ {ev' : Ev} {I' H' : Hp} {o : HO}, Rel X.K σ ev' I' H' → I' Dd = none → ¬ Own σ ev' Dd → Rel X.K σ ev' I' (upd H' Dd o) := fun {ev' I' H' o} r n1 n2 => by
    refine ⟨r.len, fun a u q => ?_, fun j t e => ?_, r.sep⟩
    · have hne : a ≠ Dd := fun z => by rw [z, n1] at q; cases q
      rw [upd_ne hne]; exact r.sub a u q
    · obtain ⟨v, q1, q2⟩ := r.slot j t e
      refine ⟨v, q1, ?_⟩
      have cell : ∀ c p, t.isCell = true → v = .ref p → CellAt X.K I' H' p c → CellAt X.K I' (upd H' Dd o) p c := fun c p hk hv q => q.mono (Le.refl _) fun u hu => by
        have hne : p ≠ Dd := fun z => n2 ⟨j, t, e, hk, by rw [q1, hv, z]⟩
        rw [upd_ne hne]; exact hu
      cases t with
      | d d => exact q2
      | own c => obtain ⟨p, hv, q3, q4⟩ := q2; exact ⟨p, hv, q3, cell c p rfl hv q4⟩
      | bor c => obtain ⟨p, hv, q3, q4⟩ := q2; exact ⟨p, hv, q3, cell c p rfl hv q4⟩
  refine ⟨fun i m H' => ∃ ev' I' acc vacc, m = xs.length - i ∧ i ≤ xs.length ∧ Step σ ev1 I1 H1 σ ev' I' H' ∧ Rel X.K σ ev' I' H' ∧ H' Dd = some (.lst vacc) ∧ I' Dd = none ∧ ¬ Own σ ev' Dd ∧ Rs X.K I' acc vacc ∧
    compL vs gs ct ce (xs.drop i) acc ev' = some (.ok ds evE), ⟨xs.length, ev1, I1, [], [], rfl, Nat.zero_le _, far (Step.refl ..), relU r1 (r1.fresh hD).1 (r1.fresh hD).2, upd_same, (r1.fresh hD).1, (r1.fresh hD).2, Rs_nil.mpr rfl, eE⟩, ?_⟩
  rintro i m H2 ⟨ev2, I2, acc, vacc, rfl, hi, s2, r2, hD2, nI, nO, rs, e2⟩
  obtain ⟨turn, stop⟩ := hJ I2 H2 s2.le r2.sub
  by_cases hlt : i < xs.length
  · have hxi : xs[i]? = some xs[i] := List.getElem?_eq_getElem hlt
    obtain ⟨go, yl⟩ := turn i _ hxi
    rw [List.drop_eq_getElem_cons hlt] at e2
    obtain ⟨nc, ev3, rr, ev4, e3, e4, e5⟩ := compL_cons e2
    refine .inr ⟨go, fun H' => ∃ ev' I' acc vacc, Step σ ev1 I1 H1 σ ev' I' H' ∧ Rel X.K σ ev' I' H' ∧ H' Dd = some (.lst vacc) ∧ I' Dd = none ∧ ¬ Own σ ev' Dd ∧ Rs X.K I' acc vacc ∧ compL vs gs ct ce (xs.drop (i + 1)) acc ev' = some (.ok ds evE),
      fun H' ⟨ev', I', acc, vacc, q⟩ => ⟨xs.length - (i + 1), by omega, ev', I', acc, vacc, rfl, hlt, q⟩, fun v H3 hy => ?_⟩
    obtain ⟨I3, ex, rv⟩ := yl v H3 hy
    have r3 := r2.ex ex
    refine ⟨wipeE ev2 vs, I3, xs[i], ev3, wipe_rel r3 vs, rv, e3, fun σ4 s4 r4 w4 => ⟨(w4 vs hts).trans wipe_wipe, ?_⟩⟩
    have hw : wipe σ4 vs = wipe σ vs := (w4 vs hts).trans wipe_wipe
    -- the turn as a whole
    have hf : Post X.K (fun _ _ _ _ => False) (turnC ct ce) σ4 ev3 I3 H3 fun o ev5 I5 H5 => match o with
        | some d => ∀ y, R X.K I5 d y → ∃ acc, H5 Dd = some (.lst acc) ∧ acc.length < sizeLine ∧ ∃ ev' I' acc' vacc, Step σ ev1 I1 H1 σ ev' I' (upd H5 Dd (.lst (acc ++ [y]))) ∧ Rel X.K σ ev' I' (upd H5 Dd (.lst (acc ++ [y]))) ∧ (upd H5 Dd (.lst (acc ++ [y]))) Dd = some (.lst vacc) ∧ I' Dd = none ∧ ¬ Own σ ev' Dd ∧ Rs X.K I' acc' vacc ∧ compL vs gs ct ce (xs.drop (i + 1)) acc' ev' = some (.ok ds evE)
        | none => ∃ ev' I' acc vacc, Step σ ev1 I1 H1 σ ev' I' H5 ∧ Rel X.K σ ev' I' H5 ∧ H5 Dd = some (.lst vacc) ∧ I' Dd = none ∧ ¬ Own σ ev' Dd ∧ Rs X.K I' acc vacc ∧ compL vs gs ct ce (xs.drop (i + 1)) acc ev' = some (.ok ds evE) := by
      unfold Post
      rw [e4]
      dsimp only
      intro I5 H5 s5 r5
      obtain ⟨s6, r6⟩ := inner_step r3 nc s4 hw s5 r5
      have hD5 : H5 Dd = some (.lst vacc) := s6.keep Dd _ (ex.same Dd _ hD2) nO
      have nI5 : I5 Dd = none := s6.new Dd (by rw [ex.same Dd _ hD2]; exact fun z => by cases z) (ex.new Dd (by rw [hD2]; exact fun z => by cases z) nI) fun w => nO w.toOwn
      have nO5 : ¬ Own σ (restE ev2 ev4 vs) Dd := fun w => (s6.own Dd w).elim nO fun z => by rw [ex.same Dd _ hD2] at z; cases z
      have s7 := s2.trans ((ex.step (σ := σ) (ev := ev2)).trans s6)
      cases rr with
      | none => exact ⟨_, I5, acc, vacc, s7, r6, hD5, nI5, nO5, Rs.mono (ex.le.trans s6.le) _ _ rs, e5⟩
      | some d =>
        dsimp only at e5 ⊢
        intro y ry
        refine ⟨vacc, hD5, by rw [← rs.length]; exact e5.1, _, I5, acc ++ [d], vacc ++ [y], far s7, relU r6 nI5 nO5, upd_same, nI5, nO5, ?_, e5.2⟩
        exact (Rs.mono (ex.le.trans s6.le) _ _ rs).append (Rs_cons.mpr ⟨y, [], rfl, ry, Rs_nil.mpr rfl⟩)
    refine ⟨ev3, I3, r4, (Post.bind hf).imp fun b ev6 I6 H6 s6 r6 h6 => ?_⟩
    cases b with
    | false =>
      rw [if_neg Bool.false_ne_true]
      exact Post.ret (α := Option D) r6 h6
    | true =>
      rw [if_pos rfl]
      rw [if_pos rfl] at h6
      exact ⟨ev6, I6, r6, (Post.bind h6).imp fun d ev7 I7 H7 s7 r7 h7 y ry => Post.ret (α := Option D) r7 h7 y ry⟩
  · have ei : i = xs.length := by omega
    subst ei
    rw [List.drop_length] at e2
    cases e2
    exact .inl ⟨stop, kE I2 H2 s2 r2 Dd h0 nI nO ⟨vacc, hD2, rs⟩⟩
end
end FL
set_option Elab.async false
set_option linter.all false
set_option maxRecDepth 100000
namespace FL
open PySem
open PySem.Spec
open L2
def fld (n : String) : List String → List D → Option D
  | k :: ks, d :: ds => if k = n then some d else fld n ks ds
  | _, _ => none
def has (n : String) : List String → Bool
  | [] => false
  | k :: ks => if k = n then true else has n ks
theorem lookup_cons' (f g : Str) (y : V) (fs : List (Str × V)) : ((f, y) :: fs).lookup g = if f = g then some y else fs.lookup g := by
  by_cases h : f = g
  · subst h
    simp [List.lookup]
  · have e : (g == f) = false := by simpa using fun z => h z.symm
    rw [if_neg h]
    simp [List.lookup, e]
theorem fld_ok {K : PySem.W.Frag} {I : Hp} {n : String} : ∀ {ks : List String} {fs : List D} {vs : List V} {d : D}, Rs K I fs vs → fld n ks fs = some d → ∃ v, ((nms ks).zip vs).lookup (Str.ofString n) = some v ∧ R K I d v
  | [], fs, vs, d, _, e => by unfold fld at e; cases e
  | k :: ks, [], vs, d, _, e => by unfold fld at e; cases e
  | k :: ks, x :: fs, vs, d, r, e => by
    obtain ⟨v, w, rfl, h1, h2⟩ := Rs_cons.mp r
    unfold fld at e
    show ∃ u, ((Str.ofString k, v) :: (nms ks).zip w).lookup (Str.ofString n) = some u ∧ _
    rw [lookup_cons']
    by_cases h : k = n
    · subst h
      rw [if_pos rfl] at e ⊢
      cases e
      exact ⟨v, rfl, h1⟩
    · rw [if_neg h] at e
      rw [if_neg fun z => h (ofString_inj.mp z)]
      exact fld_ok h2 e
theorem has_no {n : String} : ∀ {ks : List String} {vs : List V}, has n ks = false → ((nms ks).zip vs).lookup (Str.ofString n) = none
  | [], vs, _ => rfl
  | k :: ks, [], _ => rfl
  | k :: ks, v :: vs, e => by
    unfold has at e
    show ((Str.ofString k, v) :: (nms ks).zip vs).lookup (Str.ofString n) = none
    rw [lookup_cons']
    by_cases h : k = n
    · rw [if_pos h] at e
      cases e
    · rw [if_neg h] at e
      rw [if_neg fun z => h (ofString_inj.mp z)]
      exact has_no e
abbrev Arg (α : Type) := Sum Nat α
def arr {α : Type} (z : α) (pm : List (Arg α)) (l : List α) : List α := pm.map fun q => match q with
  | .inl i => l.getD i z
  | .inr a => a
def SumR {α β : Type} (F : α → β → Prop) : Arg α → Arg β → Prop
  | .inl i, .inl j => i = j
  | .inr a, .inr b => F a b
  | _, _ => False
theorem arr_rel {α β : Type} {F : α → β → Prop} {z : α} {z' : β} (hz : F z z') {l : List α} {l' : List β} (p : Paired F l l') : ∀ {pm : List (Arg α)} {pm' : List (Arg β)}, Paired (SumR F) pm pm' → Paired F (arr z pm l) (arr z' pm' l')
  | _, _, .nil => .nil
  | _, _, .cons (a := a) (b := b) r t => by
    refine .cons ?_ (arr_rel hz p t)
    cases a with
    | inl i =>
      cases b with
      | inl j =>
        have e : i = j := r
        subst e
        show F (l.getD i z) (l'.getD i z')
        rw [List.getD_eq_getElem?_getD, List.getD_eq_getElem?_getD]
        cases q : l[i]? with
        | some x =>
          obtain ⟨y, h1, h2⟩ := Paired.get' p q
          rw [h1]
          exact h2
        | none =>
          have : l'[i]? = none := by
            rw [List.getElem?_eq_none_iff, ← Paired.len' p]
            exact List.getElem?_eq_none_iff.mp q
          rw [this]
          exact hz
      | inr b => exact r.elim
    | inr a =>
      cases b with
      | inl j => exact r.elim
      | inr b => exact r
def arrA (dpm : List (Arg D)) (l : List AR) : List AR := arr (.d .non) (dpm.map fun q => match q with
  | .inl i => .inl i
  | .inr d => .inr (.d d)) l
/-- how n values and the keywords ks are bound: as pm says -/
def Bd (K : PySem.W.Frag) (fd : FuncData) (ps : List Str) (n : Nat) (ks : List Str) (pm : List (Arg V)) : Prop :=
  ∀ (s : Shared) (us ws : List Value) (vs : List V), K.In s.heap → Vals vs (us ++ ws) → us.length = n → ws.length = ks.length → ∃ us' : List Value, BindsTo s fd ⟨us, ks.zip ws⟩ (ps.zip us') ∧ Vals (arr .non pm vs) us'
theorem Paired.take' {α β : Type} {F : α → β → Prop} : ∀ {l : List α} {m m' : List β}, Paired F l (m ++ m') → ∃ a b, l = a ++ b ∧ Paired F a m ∧ Paired F b m'
  | l, [], m', h => ⟨[], l, rfl, .nil, h⟩
  | _, x :: m, m', .cons r t => by
    obtain ⟨a, b, e, h1, h2⟩ := Paired.take' t
    exact ⟨_ :: a, b, by rw [e]; rfl, .cons r h1, h2⟩
theorem Bd.of_kbn {K : PySem.W.Frag} {fd : FuncData} {ps : List Str} {n : Nat} {ks : List Str} {g : List Value → List Value → List Value} {gV : List V → List V → List V} {pm : List (Arg V)} (h : KBn K fd ps n ks g gV) (e : ∀ vs zs : List V, vs.length = n → zs.length = ks.length → gV vs zs = arr .non pm (vs ++ zs)) : Bd K fd ps n ks pm :=
  fun s us ws vs X r l1 l2 => by
    obtain ⟨a, b, rfl, h1, h2⟩ := Paired.take' r
    refine ⟨g us ws, h.to s us ws X l1 l2, ?_⟩
    rw [← e a b ((Paired.len' h1).trans l1) ((Paired.len' h2).trans l2)]
    exact h.rel h1 h2
theorem Paired.app' {α β : Type} {F : α → β → Prop} : ∀ {l : List α} {m : List β} {l' : List α} {m' : List β}, Paired F l m → Paired F l' m' → Paired F (l ++ l') (m ++ m')
  | _, _, _, _, .nil, q => q
  | _, _, _, _, .cons r t, q => .cons r (Paired.app' t q)
theorem Bd.of_binds {K : PySem.W.Frag} {fd : FuncData} {ps : List Str} {n : Nat} {dvs : List V} {ds : List Value} {pm : List (Arg V)} (h : Binds K fd ps ds) (hd : Vals dvs ds) (hn : n + dvs.length = ps.length) (e : ∀ vs : List V, vs.length = n → vs ++ dvs = arr .non pm vs) : Bd K fd ps n [] pm :=
  fun s us ws vs X r l1 l2 => by
    have : ws = [] := List.length_eq_zero_iff.mp l2
    subst this
    rw [List.append_nil] at r
    refine ⟨us ++ ds, h s us X (by rw [List.length_append, l1, ← Paired.len' hd]; exact hn), ?_⟩
    rw [← e vs ((Paired.len' r).trans l1)]
    exact Paired.app' r hd
/-- a way to call the def at f: n values, keywords ks -/
def Site (P : Program) (w : World) (K : PySem.W.Frag) (mg : Str → Option Value) (base : Heap) (f : Addr) (k n : Nat) (ks : List Str) (m : FM) (dpm : List (Arg D)) : Prop :=
  ∃ (fd : FuncData) (ps : List Str) (pm : List (Arg V)), FnOk P w K mg base (L2.CX P w) k f fd ps (spF K m) ∧ Bd K fd ps n ks pm ∧ Paired (SumR (R K fun _ => none)) dpm pm
theorem Site.mono {P : Program} {w : World} {K : PySem.W.Frag} {mg : Str → Option Value} {base : Heap} {f : Addr} {j k n : Nat} {ks : List Str} {m : FM} {dpm : List (Arg D)} (h : Site P w K mg base f j n ks m dpm) (hk : j ≤ k) : Site P w K mg base f k n ks m dpm := by
  obtain ⟨fd, ps, pm, h1, h2⟩ := h
  exact ⟨fd, ps, pm, h1.mono hk, h2⟩
theorem ArV_arr {K : PySem.W.Frag} {I : Hp} {σ : St} : ∀ {dpm : List (Arg D)} {pm : List (Arg V)}, Paired (SumR (R K fun _ => none)) dpm pm → Paired (SumR (ArV K I σ)) (dpm.map fun q => match q with
  | .inl i => .inl i
  | .inr d => .inr (.d d)) pm
  | _, _, .nil => .nil
  | _, _, .cons (a := a) (b := b) r t => by
    refine .cons ?_ (ArV_arr t)
    cases a with
    | inl i =>
      cases b with
      | inl j => exact r
      | inr b => exact r.elim
    | inr a =>
      cases b with
      | inl j => exact r.elim
      | inr b => exact R.mono (fun _ _ z => by cases z) _ _ r
structure CArg (X : Cx) (pos : Pos) (es : List Expr) (kws : List Keyword) (n : Nat) (ks : List Str) (t : TA) : Prop where
  run : ∀ (f : Value) (first : List Value) (pins : List (Addr × Obj)) (s : Shared) (σ : St) (H : Hp) (Q : List V → Hp → Prop) (Z : Value → Shared → Prop), PySem.W.keepIn X.K f = true → Inv X pins σ H s → t σ H (fun vs H' => vs.length = n + ks.length ∧ Q vs H') →
    (∀ (us ws : List Value) (vs : List V) (s' : Shared) (H' : Hp), Inv X pins σ H' s' → Vals vs (us ++ ws) → us.length = n → ws.length = ks.length → Q vs H' → wpAny (model X.prog X.w) X.A (call f (first ++ us) (ks.zip ws)) Z X.xe s') →
    wpAny (model X.prog X.w) X.A (callWith pos f first (backTo pos (starEach es X.env)) (backToKw pos (keywordEach kws X.env))) Z X.xe s
def SC (X : Cx) (W : WX) (pos : Pos) (es : List Expr) (kws : List Keyword) (n : Nat) (ks : List Str) (c : M (List AR)) : Prop := ∃ t, CArg X pos es kws n ks t ∧ SimR X.K W t c
def SK (X : Cx) (W : WX) (kws : List Keyword) (c : M (List AR)) : Prop := ∃ t, PK X kws t ∧ SimR X.K W t c
section
variable {X : Cx} {W : WX} {e : Expr} {es : List Expr} {kws : List Keyword} {pos : Pos} {nm : Option Str} {kpos : Pos}
theorem sk_nil : SK X W [] rNil := ⟨_, pk_nil, fun σ ev I H Q rel h => Post.ret rel h _ .nil⟩
theorem sk_cons {ca : M D} {cr : M (List AR)} (ha : SE X W e ca) (hr : SK X W kws cr) : SK X W (⟨nm, e, kpos⟩ :: kws) (rCons ca cr) := by
  obtain ⟨ta, pa, sa⟩ := ha
  obtain ⟨tr, pr, sr⟩ := hr
  refine ⟨_, pk_cons pa pr, fun σ ev I H Q rel h => ?_⟩
  refine sa σ ev I H _ rel ((Post.bind h).imp fun x ev1 I1 H1 s1 r1 h1 vx rx => ?_)
  refine sr σ ev1 I1 H1 _ r1 ((Post.bind h1).imp fun xs ev2 I2 H2 s2 r2 h2 vs rs => ?_)
  exact Post.ret r2 h2 _ (.cons (show ArV X.K I2 σ (.d x) vx from R.mono s2.le _ _ rx) rs)
theorem sc_nil : SC X W pos [] [] 0 [] rNil := ⟨tNil, ⟨fun f first pins s σ H Q Z hk I h k => PySem.W.callWith_K0 I.kIn hk (k [] [] [] s H I .nil rfl rfl h.2)⟩, fun σ ev I H Q rel h => Post.ret rel h _ .nil⟩
theorem sc_pos {ca : M (List AR)} (n : Nat) (ha : SR X W (e :: es) ca) (he : starEach (e :: es) X.env = (false, eval e X.env) :: starEach es X.env := by rfl) (hpl : (backTo pos (starEach es X.env)).any (·.1) = false := by rfl) : SC X W pos (e :: es) [] n [] ca := by
  obtain ⟨t, pa, sa⟩ := ha
  refine ⟨t, ⟨fun f first pins s σ H Q Z hk I h k => ?_⟩, sa⟩
  refine PySem.W.callWith_K (h₀ := X.base) I.ok.mod.kin hk (thn (pa.run pos pins s σ H _ I h) fun us s1 ⟨vs, H1, I1, r, l, q⟩ => ⟨I1.kIn, ?_⟩) he hpl
  exact k us [] vs s1 H1 I1 (by rw [List.append_nil]; exact r) (r.length.symm.trans l) rfl q
theorem sc_kw0 {ck : M (List AR)} {ks : List Str} (hk : SK X W kws ck) (hall : (backToKw pos (keywordEach kws X.env)).all (·.1.isSome) = true := by rfl) (hks : (backToKw pos (keywordEach kws X.env)).filterMap (·.1) = ks := by rfl)
    (hpl : ((backTo pos (starEach [] X.env)).any (·.1) || (backToKw pos (keywordEach kws X.env)).any (·.1.isNone)) = false := by rfl) : SC X W pos [] kws 0 ks ck := by
  obtain ⟨t, pk, sk⟩ := hk
  refine ⟨t, ⟨fun f first pins s σ H Q Z hk I h k => ?_⟩, sk⟩
  refine PySem.W.callWith_KW0 (h₀ := X.base) I.ok.mod.kin hk hall ?_ hpl
  refine thn (pk.run pos pins s σ H _ I h) fun ws s2 ⟨zs, H2, I2, rz, l, q2⟩ => ⟨I2.kIn, ?_⟩
  rw [hks]
  exact k [] ws zs s2 H2 I2 rz rfl (by rw [← rz.length, l, Nat.zero_add]) q2
def tApp (t tk : TA) (n : Nat) : TA := fun σ H Q => t σ H fun vs H1 => vs.length = n ∧ tk σ H1 fun zs H2 => Q (vs ++ zs) H2
def rApp (n : Nat) (ca ck : M (List AR)) : M (List AR) := ca.bind fun as => fun ev => if as.length = n then (ck.bind fun bs => M.ret (as ++ bs)) ev else none
theorem Paired.imp' {α β : Type} {F G : α → β → Prop} (h : ∀ a b, F a b → G a b) : ∀ {l : List α} {m : List β}, Paired F l m → Paired G l m
  | _, _, .nil => .nil
  | _, _, .cons r t => .cons (h _ _ r) (Paired.imp' h t)
theorem sc_kw {ca ck : M (List AR)} {ks : List Str} (n : Nat) (ha : SR X W (e :: es) ca) (hk : SK X W kws ck) (hall : (backToKw pos (keywordEach kws X.env)).all (·.1.isSome) = true := by rfl) (hks : (backToKw pos (keywordEach kws X.env)).filterMap (·.1) = ks := by rfl)
    (he : starEach (e :: es) X.env = (false, eval e X.env) :: starEach es X.env := by rfl) (hpl : ((backTo pos (starEach (e :: es) X.env)).any (·.1) || (backToKw pos (keywordEach kws X.env)).any (·.1.isNone)) = false := by rfl) : SC X W pos (e :: es) kws n ks (rApp n ca ck) := by
  obtain ⟨t, pa, sa⟩ := ha
  obtain ⟨tk, pk, sk⟩ := hk
  refine ⟨tApp t tk n, ⟨fun f first pins s σ H Q Z hk I h k => ?_⟩, fun σ ev I H Q rel h => ?_⟩
  · refine PySem.W.callWith_KW (h₀ := X.base) I.ok.mod.kin hk hall (thn (pa.run pos pins s σ H _ I h) fun us s1 ⟨vs, H1, I1, r, l, q⟩ => ?_) hpl he
    refine thn (pk.run pos pins s1 σ H1 _ I1 q) fun ws s2 ⟨zs, H2, I2, rz, l2, q2⟩ => ⟨I2.kIn, ?_⟩
    rw [hks]
    refine k us ws _ s2 H2 I2 (r.append rz) (r.length.symm.trans l) ?_ q2
    rw [← rz.length]
    rw [List.length_append, l] at l2
    omega
  · refine sa σ ev I H _ rel ((Post.bind h).imp fun as ev1 I1 H1 s1 r1 h1 vs pv => ?_)
    have l := Paired.len' pv
    by_cases e : as.length = n
    · refine ⟨by rw [← l, e], ?_⟩
      unfold Post at h1
      simp only [e, if_true] at h1
      refine sk σ ev1 I1 H1 _ r1 ((Post.bind (show Post X.K W (ck.bind fun bs => M.ret (as ++ bs)) σ ev1 I1 H1 _ from h1)).imp fun bs ev2 I2 H2 s2 r2 h2 zs pz => ?_)
      exact Post.ret r2 h2 _ (Paired.app' (Paired.imp' (fun a b q => ArV.mono s2.le q) pv) pz)
    · unfold Post at h1
      simp only [e, if_false] at h1
end
section
variable {X : Cx} {W : WX} {e : Expr} {es : List Expr} {pos p : Pos} {k n : Nat} {f : Addr} {ks : List Str} {m : FM} {dpm : List (Arg D)}
theorem run_site {pins : List (Addr × Obj)} {σ : St} {H : Hp} {s : Shared} {Q : VK} {E : St → XK} {us ws : List Value} {vs : List V} {fd : FuncData} {ps : List Str} {pm : List (Arg V)} {sp : Sp} (F : FnOk X.prog X.w X.K X.mg X.base (L2.CX X.prog X.w) k f fd ps sp)
    (hb : Bd X.K fd ps n ks pm) (hr : Room k X.A) (hx : PassesAt (L2.CX X.prog X.w) X σ (E σ))
    (I : Inv X pins σ H s) (r : Vals vs (us ++ ws)) (l1 : us.length = n) (l2 : ws.length = ks.length) (h : sp (arr .non pm vs) H Q (E σ)) : wpAny (model X.prog X.w) X.A (call (.ref f) us (ks.zip ws)) (EP X pins σ Q) X.xe s := by
  obtain ⟨us', b2, r2⟩ := hb s us ws vs I.kIn r l1 l2
  refine wpAny_call (codeAny_mono (F.run X.A X.stack s H ⟨us, ks.zip ws⟩ _ _ Q (E σ) hr I.env0 b2 r2 h) fun r s' hq => ?_)
  cases r with
  | error er => exact hx pins H s er s' I hq
  | ok fl =>
    cases fl with
    | ret u => exact I.after hq
    | next => exact False.elim hq
    | brk => exact False.elim hq
    | cont => exact False.elim hq
def tSite (n : Nat) (sp : Sp) (pm : List (Arg V)) (E : St → XK) (t : TA) : TE := fun σ H Q => t σ H fun vs H1 => vs.length = n ∧ sp (arr .non pm vs) H1 Q (E σ)
/-- a call of a site -/
def callS {α : Type} (f : RV → Option α) (m : FM) (dpm : List (Arg D)) (n : Nat) (ars : List AR) : M α := fun ev => if ars.length = n then callM f m [] (arrA dpm ars) ev else none
theorem callS_post {α : Type} {K : PySem.W.Frag} {g : RV → Option α} {ars : List AR} {σ : St} {ev : Ev} {I H : Hp} {G : α → Ev → Hp → Hp → Prop} (h : Post K W (callS g m dpm n ars) σ ev I H G) : ars.length = n ∧ Post K W (callM g m [] (arrA dpm ars)) σ ev I H G := by
  by_cases e : ars.length = n
  · unfold Post callS at h
    simp only [e, if_true] at h
    exact ⟨e, h⟩
  · unfold Post callS at h
    simp only [e, if_false] at h
theorem site_data {K : PySem.W.Frag} {ars : List AR} {vs : List V} {σ : St} {ev : Ev} {I H : Hp} {Q : VK} {pm : List (Arg V)} (hd : Paired (SumR (R K fun _ => none)) dpm pm) (r : Rel K σ ev I H) (h : Post K W (callM (fun r => some (rvD r)) m [] (arrA dpm ars)) σ ev I H (RG K Q))
    (p : Paired (ArV K I σ) ars vs) : spF K m (arr .non pm vs) H Q (WE W σ) := by
  have := sp_data r h (arr_rel (F := ArV K I σ) (z := AR.d .non) (z' := V.non) (show R K I .non .non from R_non.mpr rfl) p (ArV_arr hd)) (Rs_nil.mpr rfl)
  rw [List.append_nil] at this
  exact this
theorem callF_fresh {K : PySem.W.Frag} {dds : List D} {dvs : List V} {ars : List AR} {vs : List V} {σ : St} {ev : Ev} {I H H0 : Hp} {Q : VK} (r : Rel K σ ev I H) (h0 : ∀ p, H p = none → H0 p = none) (h : Post K W (callM frC m dds ars) σ ev I H (RF K σ H0 Q))
    (p : Paired (ArV K I σ) ars vs) (rd : Rs K (fun _ => none) dds dvs) : spF K m (vs ++ dvs) H Q (WE W σ) :=
  sp_of r h p rd fun rv a ev' I' H' v ef ke s r' g rvv => by
    cases rv with
    | d d => cases ef
    | fr c =>
      cases ef
      obtain ⟨q, rfl, hn, h2, h3⟩ := rvv
      exact g I' s r' q (h0 q hn) h2 (fun w => r.own_there (ke.own w) hn) h3
theorem site_fresh {K : PySem.W.Frag} {ars : List AR} {vs : List V} {σ : St} {ev : Ev} {I H H0 : Hp} {Q : VK} {pm : List (Arg V)} (hd : Paired (SumR (R K fun _ => none)) dpm pm) (r : Rel K σ ev I H) (h0 : ∀ p, H p = none → H0 p = none) (h : Post K W (callM frC m [] (arrA dpm ars)) σ ev I H (RF K σ H0 Q))
    (p : Paired (ArV K I σ) ars vs) : spF K m (arr .non pm vs) H Q (WE W σ) := by
  have := callF_fresh r h0 h (arr_rel (F := ArV K I σ) (z := AR.d .non) (z' := V.non) (show R K I .non .non from R_non.mpr rfl) p (ArV_arr hd)) (Rs_nil.mpr rfl)
  rw [List.append_nil] at this
  exact this
theorem pe_site {x : String} {kws : List Keyword} {t : TA} {fd : FuncData} {ps : List Str} {pm : List (Arg V)} {sp : Sp} (F : FnOk X.prog X.w X.K X.mg X.base (L2.CX X.prog X.w) k f fd ps sp)
    (hb : Bd X.K fd ps n ks pm) (hm : X.mg (Str.ofString x) = some (.ref f)) (hkp : PySem.W.keepIn X.K (.ref f) = true) (hr : Room k X.A) (tk : Takes X W) (hg : Gl X (Str.ofString x))
    (ha : CArg X pos es kws n ks t) (hdb : (Str.ofString x == ("__debug__" : Str)) = false) : PE X (.Call (.Name (Str.ofString x) p) es kws pos) (tSite (n + ks.length) sp pm (WE W) t) := by
  refine ⟨fun pins s σ H Q I hw => wpAny_Call_Name_kw (ld_glob I hg hm ?_ hdb)⟩
  have h := hw
  refine ha.run (.ref f) [] pins _ σ H _ _ hkp I h fun us ws vs s' H' I' r l1 l2 q => ?_
  exact run_site F hb hr (passAt tk σ) I' r l1 l2 q
theorem se_site {x : String} {kws : List Keyword} {ca : M (List AR)} (F : Site X.prog X.w X.K X.mg X.base f k n ks m dpm) (hm : X.mg (Str.ofString x) = some (.ref f)) (hkp : PySem.W.keepIn X.K (.ref f) = true) (hr : Room k X.A) (tk : Takes X W) (hg : Gl X (Str.ofString x)) (ha : SC X W pos es kws n ks ca)
    (hdb : (Str.ofString x == ("__debug__" : Str)) = false := by decide +kernel) : SE X W (.Call (.Name (Str.ofString x) p) es kws pos) (ca.bind fun ars => callS (fun r => some (rvD r)) m dpm (n + ks.length) ars) := by
  obtain ⟨fd, ps, pm, hF, hb, hd⟩ := F
  obtain ⟨t, pa, sa⟩ := ha
  refine ⟨_, pe_site hF hb hm hkp hr tk hg pa hdb, fun σ ev I H Q rel h => ?_⟩
  refine sa σ ev I H _ rel ((Post.bind h).imp fun ars ev1 I1 H1 s1 r1 h1 vs pv => ?_)
  obtain ⟨l, h2⟩ := callS_post h1
  exact ⟨by rw [← Paired.len' pv, l], site_data hd r1 h2 pv⟩
theorem sef_site {x : String} {kws : List Keyword} {ca : M (List AR)} (F : Site X.prog X.w X.K X.mg X.base f k n ks m dpm) (hm : X.mg (Str.ofString x) = some (.ref f)) (hkp : PySem.W.keepIn X.K (.ref f) = true) (hr : Room k X.A) (tk : Takes X W) (hg : Gl X (Str.ofString x)) (ha : SC X W pos es kws n ks ca)
    (hdb : (Str.ofString x == ("__debug__" : Str)) = false := by decide +kernel) : SEF X W (.Call (.Name (Str.ofString x) p) es kws pos) (ca.bind fun ars => callS frC m dpm (n + ks.length) ars) := by
  obtain ⟨fd, ps, pm, hF, hb, hd⟩ := F
  obtain ⟨t, pa, sa⟩ := ha
  refine ⟨_, pe_site hF hb hm hkp hr tk hg pa hdb, fun σ ev I H Q rel h => ?_⟩
  refine sa σ ev I H _ rel ((Post.bind h).imp fun ars ev1 I1 H1 s1 r1 h1 vs pv => ?_)
  obtain ⟨l, h2⟩ := callS_post h1
  refine ⟨by rw [← Paired.len' pv, l], site_fresh hd r1 (fun q z => ?_) h2 pv⟩
  exact Classical.byContradiction fun hn => s1.there q hn z
end
end FL
set_option Elab.async false
set_option linter.all false
set_option maxRecDepth 100000
namespace FL
open PySem
open PySem.Spec
open L2
def SO (X : Cx) (W : WX) (e : Expr) (c : M AR) : Prop := ∃ t, PE X e t ∧ ∀ (σ : St) (ev : Ev) (I H : Hp) (Q : VK), Rel X.K σ ev I H → Post X.K W c σ ev I H (fun a _ I' H' => ∀ v, ArV X.K I' σ a v → Q v H') → t σ H Q
def mOd (c : M D) : M AR := c.bind fun d => M.ret (.d d)
section
variable {X : Cx} {W : WX} {e : Expr} {pos : Pos}
theorem so_d {c : M D} (h : SE X W e c) : SO X W e (mOd c) := by
  obtain ⟨t, p, s⟩ := h
  exact ⟨t, p, fun σ ev I H Q rel h => s σ ev I H Q rel ((Post.bind h).imp fun d ev1 I1 H1 s1 r1 h1 v rv => Post.ret r1 h1 v rv)⟩
theorem so_var (i : Nat) {x : Str} {p : Pos} (hN : X.N[i]? = some x) (hv : Vis X.env.scope x) (hd : (x == ("__debug__" : Str)) = false := by decide +kernel) (hcd : (x == ("__classdict__" : Str)) = false := by decide +kernel) : SO X W (.Name x p) (mArV i) :=
  ⟨_, pe_var hN hv hd hcd, fun σ ev I H Q rel h => sim_arv i rel h⟩
end
/-- the instance that a receiver is: its class, its fields -/
def insAt (ev : Ev) (a : AR) : Option (String × List String × List D) := match arSV ev a with
  | some (.d (.ins C ks fs)) => some (C, ks, fs)
  | some (.bor (.ins C ks fs)) => some (C, ks, fs)
  | _ => none
theorem insAt_ok {K : PySem.W.Frag} {σ : St} {ev : Ev} {I H : Hp} {a : AR} {v : V} {C : String} {ks : List String} {fs : List D} (r : Rel K σ ev I H) (e : insAt ev a = some (C, ks, fs)) (h : ArV K I σ a v) :
    ∃ p dx vs, v = .ref p ∧ H p = some (.ins (cad K C) dx ((nms ks).zip vs)) ∧ ks.length = vs.length ∧ Rs K I fs vs := by
  unfold insAt at e
  cases a with
  | d d =>
    simp only [arSV] at e
    cases d with
    | ins C' ks' fs' =>
      cases e
      obtain ⟨p, dx, vs, e1, e2, e3, e4⟩ := R_ins.mp h
      exact ⟨p, dx, vs, e1, r.sub _ _ e2, e3, e4⟩
    | _ => cases e
  | sl i =>
    have hv : σ[i]? = some (some v) := h
    have key : ∀ s c, ev[i]? = some (some s) → s.isCell = true → (s = .own c ∨ s = .bor c) → c = .ins C ks fs → ∃ p dx vs, v = .ref p ∧ H p = some (.ins (cad K C) dx ((nms ks).zip vs)) ∧ ks.length = vs.length ∧ Rs K I fs vs := fun s c h1 h2 h3 h4 => by
      obtain ⟨p, c', e1, e2, e3, e4⟩ := r.cell h1 h2
      have : c' = c := by
        rcases h3 with rfl | rfl <;> rcases e4 with e4 | e4 <;> cases e4 <;> rfl
      subst this
      subst h4
      rw [hv] at e1
      cases e1
      obtain ⟨dx, vs, e5, e6, e7⟩ := e3
      exact ⟨p, dx, vs, rfl, e5, e6, e7⟩
    cases q : ev[i]? with
    | none => simp only [arSV, q] at e; cases e
    | some o =>
      cases o with
      | none => simp only [arSV, q] at e; cases e
      | some s =>
        cases s with
        | d d => simp only [arSV, q] at e; cases e
        | own c =>
          simp only [arSV, q] at e
          cases c with
          | lst xs => cases e
          | ins C' ks' fs' => cases e; exact key _ _ q rfl (.inl rfl) rfl
        | bor c =>
          simp only [arSV, q] at e
          cases c with
          | lst xs => cases e
          | ins C' ks' fs' => cases e; exact key _ _ q rfl (.inr rfl) rfl
/-- a row of a method's table: the class, the mirror, how the arguments are laid, its level -/
structure MRow where
  C : String
  m : FM
  dpm : List (Arg D)
def MSite (P : Program) (w : World) (K : PySem.W.Frag) (mg : Str → Option Value) (base : Heap) (name : String) (k n : Nat) (ks : List Str) (r : MRow) : Prop :=
  ∃ f : Addr, Cls K (cad K r.C) ∧ Meth K (cad K r.C) (Str.ofString name) f ∧ Site P w K mg base f k (n + 1) ks r.m r.dpm
def lkR (C : String) : List MRow → Option MRow
  | [] => none
  | r :: t => if r.C = C then some r else lkR C t
theorem lkR_mem {C : String} : ∀ {t : List MRow} {r : MRow}, lkR C t = some r → r ∈ t ∧ r.C = C
  | [], r, h => by cases h
  | x :: t, r, h => by
    unfold lkR at h
    split at h
    · rename_i q
      cases h
      exact ⟨List.mem_cons_self .., q⟩
    · exact ⟨List.mem_cons_of_mem _ (lkR_mem h).1, (lkR_mem h).2⟩
def rowAt (name : String) (t : List MRow) (o : AR) : M MRow := fun ev => match insAt ev o with
  | some (C, ks, _) => if has name ks then none else (lkR C t).map fun r => .ok r ev
  | none => none
/-- o.m(..) -/
def mMeth {α : Type} (g : RV → Option α) (name : String) (tb : List MRow) (n : Nat) (co : M AR) (ca : M (List AR)) : M α := co.bind fun o => (rowAt name tb o).bind fun r => ca.bind fun ars => callS g r.m r.dpm (n + 1) (o :: ars)
def tMethG (K : PySem.W.Frag) (name : Str) (n : Nat) (G : Addr → Addr → List V → Hp → (VK → XK → Prop)) (E : St → XK) (ta : TE) (t : TA) : TE := fun σ H Q => ta σ H fun x H1 => ∃ a C dx fs, x = .ref a ∧ H1 a = some (.ins C dx fs) ∧ fs.lookup name = none ∧
  ∃ f, Cls K C ∧ Meth K C name f ∧ t σ H1 fun vs H2 => vs.length = n ∧ G a f vs H2 Q (E σ)
/-- what is to be known of the callee at f, the receiver a -/
def GoM (X : Cx) (k n : Nat) (ks : List Str) (a f : Addr) (vs : List V) (H : Hp) (Q : VK) (E : XK) : Prop :=
  ∃ (fd : FuncData) (ps : List Str) (pm : List (Arg V)) (sp : Sp), FnOk X.prog X.w X.K X.mg X.base (L2.CX X.prog X.w) k f fd ps sp ∧ Bd X.K fd ps (n + 1) ks pm ∧ sp (arr .non pm (.ref a :: vs)) H Q E
section
variable {X : Cx} {W : WX} {o : Expr} {es : List Expr} {kws : List Keyword} {pos apos : Pos} {k n : Nat} {ks : List Str}
theorem pe_methG {name : Str} {pl : Sem Bool} {ta : TE} {t : TA} (he : PE X o ta) (hr : Room k X.A) (tk : Takes X W) (ha : CArg X pos es kws n ks t)
    (ht : eval (.Call (.Attribute o name apos) es kws pos) X.env = (do
      let ov ← eval o X.env
      standAt apos.atName
      let (fm, first) ← holding [ov] (getMethod ov name pl)
      callWith pos fm first (backTo pos (starEach es X.env)) (backToKw pos (keywordEach kws X.env))) := by rfl) :
    PE X (.Call (.Attribute o name apos) es kws pos) (tMethG X.K name (n + ks.length) (GoM X k n ks) (WE W) ta t) := by
  refine ⟨fun pins s σ H Q I h => PySem.W.methodCall_KW (pl := pl) (thn (he.run pins s σ H _ I h) fun u s1 ⟨x, H1, I1, rx, a, C, dx, fs, ex, ea, l, f, c, hm, q⟩ => ?_) ht⟩
  subst ex
  have eu : u = Value.ref a := rx
  subst eu
  refine (getmeth_ok I1 ea c hm l ?_)
  refine ha.run (.ref f) [.ref a] pins _ σ H1 _ _ hm.kp I1 q fun us ws vs s' H' I' r l1 l2 q' => ?_
  obtain ⟨fd, ps, pm, sp, F, hb, hs⟩ := q'
  exact run_site (us := .ref a :: us) F hb hr (passAt tk σ) I' (.cons (show RelV (V.ref a) (Value.ref a) from rfl) r) (by rw [List.length_cons, l1]) l2 hs
theorem sim_methG {K : PySem.W.Frag} {name : String} {α : Type} {g : RV → Option α} {tb : List MRow} {ta : TE} {t : TA} {co : M AR} {ca : M (List AR)} {G : Addr → Addr → List V → Hp → (VK → XK → Prop)} {nn : Nat} {Q : VK} {U : α → Ev → Hp → Hp → Prop} {σ : St} {ev : Ev} {I H : Hp}
    (so : ∀ (σ : St) (ev : Ev) (I H : Hp) (Q : VK), Rel K σ ev I H → Post K W co σ ev I H (fun a _ I' H' => ∀ v, ArV K I' σ a v → Q v H') → ta σ H Q) (sa : SimR K W t ca)
    (hs : ∀ r ∈ tb, ∃ f, Cls K (cad K r.C) ∧ Meth K (cad K r.C) (Str.ofString name) f ∧ ∀ a ars vs ev' I' H', (∀ p, H' p = none → H p = none) → Rel K σ ev' I' H' → Paired (ArV K I' σ) ars (.ref a :: vs) → Post K W (callM g r.m [] (arrA r.dpm ars)) σ ev' I' H' U → G a f vs H' Q (WE W σ))
    (rel : Rel K σ ev I H) (h : Post K W (mMeth g name tb nn co ca) σ ev I H U) : tMethG K (Str.ofString name) nn G (WE W) ta t σ H Q := by
  refine so σ ev I H _ rel ((Post.bind h).imp fun o ev1 I1 H1 s1 r1 h1 v hv => ?_)
  have h2 := Post.bind h1
  unfold Post rowAt at h2
  cases e : insAt ev1 o with
  | none => rw [e] at h2; exact h2.elim
  | some q =>
    obtain ⟨C, ks, fs⟩ := q
    rw [e] at h2
    simp only at h2
    obtain ⟨p, dx, vs, rfl, e2, e3, e4⟩ := insAt_ok r1 e hv
    cases hk : has name ks with
    | true => rw [hk] at h2; exact h2.elim
    | false =>
      rw [hk] at h2
      simp only [Bool.false_eq_true, if_false] at h2
      cases el : lkR C tb with
      | none => rw [el] at h2; exact h2.elim
      | some r =>
        rw [el] at h2
        obtain ⟨hm, rfl⟩ := lkR_mem el
        have h3 := h2 I1 H1 (Step.refl ..) r1
        obtain ⟨f, c, hme, hgo⟩ := hs r hm
        refine ⟨p, _, dx, _, rfl, e2, has_no hk, f, c, hme, ?_⟩
        refine sa σ ev1 I1 H1 _ r1 ((Post.bind h3).imp fun ars ev2 I2 H2 s2 r2 h4 ws pw => ?_)
        obtain ⟨l, h5⟩ := callS_post h4
        rw [List.length_cons] at l
        refine ⟨by rw [← Paired.len' pw]; omega, hgo p (o :: ars) ws ev2 I2 H2 (fun q z => Classical.byContradiction fun hn => s2.there q (s1.there q hn) z) r2 (.cons (hv.mono s2.le) pw) h5⟩
theorem se_meth {name : String} {pl : Sem Bool} {tb : List MRow} {co : M AR} {ca : M (List AR)} (ho : SO X W o co) (hs : ∀ r ∈ tb, MSite X.prog X.w X.K X.mg X.base name k n ks r) (hr : Room k X.A) (tk : Takes X W) (ha : SC X W pos es kws n ks ca)
    (ht : eval (.Call (.Attribute o (Str.ofString name) apos) es kws pos) X.env = (do
      let ov ← eval o X.env
      standAt apos.atName
      let (f, first) ← holding [ov] (getMethod ov (Str.ofString name) pl)
      callWith pos f first (backTo pos (starEach es X.env)) (backToKw pos (keywordEach kws X.env))) := by rfl) :
    SE X W (.Call (.Attribute o (Str.ofString name) apos) es kws pos) (mMeth (fun r => some (rvD r)) name tb (n + ks.length) co ca) := by
  obtain ⟨ta, pa, sa⟩ := ho
  obtain ⟨t, pt, st⟩ := ha
  refine ⟨_, pe_methG pa hr tk pt ht, fun σ ev I H Q rel h => sim_methG (U := RG X.K Q) sa st (fun r hr => ?_) rel h⟩
  obtain ⟨f, c, hm, fd, ps, pm, F, hb, hd⟩ := hs r hr
  exact ⟨f, c, hm, fun a ars vs ev' I' H' _ r' pv h' => ⟨fd, ps, pm, _, F, hb, site_data hd r' h' pv⟩⟩
theorem sef_meth {name : String} {pl : Sem Bool} {tb : List MRow} {co : M AR} {ca : M (List AR)} (ho : SO X W o co) (hs : ∀ r ∈ tb, MSite X.prog X.w X.K X.mg X.base name k n ks r) (hr : Room k X.A) (tk : Takes X W) (ha : SC X W pos es kws n ks ca)
    (ht : eval (.Call (.Attribute o (Str.ofString name) apos) es kws pos) X.env = (do
      let ov ← eval o X.env
      standAt apos.atName
      let (f, first) ← holding [ov] (getMethod ov (Str.ofString name) pl)
      callWith pos f first (backTo pos (starEach es X.env)) (backToKw pos (keywordEach kws X.env))) := by rfl) :
    SEF X W (.Call (.Attribute o (Str.ofString name) apos) es kws pos) (mMeth frC name tb (n + ks.length) co ca) := by
  obtain ⟨ta, pa, sa⟩ := ho
  obtain ⟨t, pt, st⟩ := ha
  refine ⟨_, pe_methG pa hr tk pt ht, fun σ ev I H Q rel h => sim_methG (U := RF X.K σ H Q) sa st (fun r hr => ?_) rel h⟩
  obtain ⟨f, c, hm, fd, ps, pm, F, hb, hd⟩ := hs r hr
  exact ⟨f, c, hm, fun a ars vs ev' I' H' h0 r' pv h' => ⟨fd, ps, pm, _, F, hb, site_fresh hd r' h0 h' pv⟩⟩
end
section
variable {X : Cx} {W : WX} {o e : Expr} {pos p' : Pos}
/-- the classes whose instances have the field f: own classes of the table -/
structure AtT (K : PySem.W.Frag) (f : String) (cs : List String) : Prop where
  cl : ∀ C ∈ cs, Cls K (cad K C)
  no : ∀ C ∈ cs, NoAttr K (cad K C) (Str.ofString f)
def fldAt (f : String) (cs : List String) (o : AR) : M D := fun ev => match insAt ev o with
  | some (C, ks, fs) => if cs.contains C then (fld f ks fs).map fun d => .ok d ev else none
  | none => none
def mFld (f : String) (cs : List String) (co : M AR) : M D := co.bind fun o => fldAt f cs o
theorem se_fld {f : String} {cs : List String} {co : M AR} (A : AtT X.K f cs) (ho : SO X W o co) (hb : attributeBase o (Str.ofString f) X.env (eval o X.env) = eval o X.env := by rfl) : SE X W (.Attribute o (Str.ofString f) pos) (mFld f cs co) := by
  obtain ⟨ta, pa, sa⟩ := ho
  refine ⟨_, pe_fld pa hb, fun σ ev I H Q rel h => ?_⟩
  refine sa σ ev I H _ rel ((Post.bind h).imp fun o ev1 I1 H1 s1 r1 h1 v hv => ?_)
  unfold Post fldAt at h1
  cases e : insAt ev1 o with
  | none => rw [e] at h1; exact h1.elim
  | some q =>
    obtain ⟨C, ks, fs⟩ := q
    rw [e] at h1
    simp only at h1
    cases hc : cs.contains C with
    | false => rw [hc] at h1; exact h1.elim
    | true =>
      rw [hc] at h1
      simp only [if_true] at h1
      obtain ⟨p, dx, vs, rfl, e2, e3, e4⟩ := insAt_ok r1 e hv
      cases ef : fld f ks fs with
      | none => rw [ef] at h1; exact h1.elim
      | some d =>
        rw [ef] at h1
        obtain ⟨u, l, ru⟩ := fld_ok e4 ef
        have hm : C ∈ cs := by simpa using hc
        exact ⟨p, _, dx, _, u, rfl, e2, A.cl C hm, A.no C hm, l, h1 I1 H1 (Step.refl ..) r1 u ru⟩
/-- a constant of the class, by an instance -/
def conAt (f : String) (tb : List (String × D)) (o : AR) : M D := fun ev => match insAt ev o with
  | some (C, ks, fs) => if has f ks then none else (tb.lookup C).map fun d => .ok d ev
  | none => none
def mCon (f : String) (tb : List (String × D)) (co : M AR) : M D := co.bind fun o => conAt f tb o
theorem lookup_mem {α : Type} {C : String} {d : α} : ∀ {tb : List (String × α)}, tb.lookup C = some d → (C, d) ∈ tb
  | [], h => by cases h
  | (k, x) :: tb, h => by
    by_cases q : k = C
    · subst q
      have : x = d := by simpa [List.lookup] using h
      subst this
      exact List.mem_cons_self ..
    · have e : (C == k) = false := by simpa using fun z => q z.symm
      have : tb.lookup C = some d := by simpa [List.lookup, e] using h
      exact List.mem_cons_of_mem _ (lookup_mem this)
theorem se_con {f : String} {tb : List (String × D)} {co : M AR} (A : ∀ r ∈ tb, Cls X.K (cad X.K r.1) ∧ ∃ u v, Con X.K (cad X.K r.1) (Str.ofString f) v u ∧ R X.K (fun _ => none) r.2 v) (ho : SO X W o co) (hb : attributeBase o (Str.ofString f) X.env (eval o X.env) = eval o X.env := by rfl) : SE X W (.Attribute o (Str.ofString f) pos) (mCon f tb co) := by
  obtain ⟨ta, pa, sa⟩ := ho
  refine ⟨_, pe_con pa hb, fun σ ev I H Q rel h => ?_⟩
  refine sa σ ev I H _ rel ((Post.bind h).imp fun o ev1 I1 H1 s1 r1 h1 v hv => ?_)
  unfold Post conAt at h1
  cases e : insAt ev1 o with
  | none => rw [e] at h1; exact h1.elim
  | some q =>
    obtain ⟨C, ks, fs⟩ := q
    rw [e] at h1
    simp only at h1
    cases hk : has f ks with
    | true => rw [hk] at h1; exact h1.elim
    | false =>
      rw [hk] at h1
      simp only [Bool.false_eq_true, if_false] at h1
      obtain ⟨p, dx, vs, rfl, e2, e3, e4⟩ := insAt_ok r1 e hv
      cases ef : tb.lookup C with
      | none => rw [ef] at h1; exact h1.elim
      | some d =>
        rw [ef] at h1
        obtain ⟨hc, u, w, hcon, rw'⟩ := A _ (lookup_mem ef)
        exact ⟨p, _, dx, _, w, u, rfl, e2, hc, hcon, has_no hk, h1 I1 H1 (Step.refl ..) r1 w (R.mono (fun _ _ z => by cases z) _ _ rw')⟩
end
end FL
set_option Elab.async false
set_option linter.all false
set_option maxRecDepth 100000
namespace FL
open PySem
open PySem.Spec
open L2
def putK (f : String) : List String → List String
  | [] => [f]
  | k :: ks => if k = f then k :: ks else k :: putK f ks
def putD (f : String) (d : D) : List String → List D → List D
  | k :: ks, x :: fs => if k = f then d :: fs else x :: putD f d ks fs
  | _, _ => [d]
theorem put_ok {K : PySem.W.Frag} {I : Hp} {f : String} {d : D} {v : V} (rv : R K I d v) : ∀ {ks : List String} {fs : List D} {vs : List V}, ks.length = vs.length → Rs K I fs vs → ∃ ws, (nms (putK f ks)).zip ws = putF (Str.ofString f) v ((nms ks).zip vs) ∧ (putK f ks).length = ws.length ∧ Rs K I (putD f d ks fs) ws
  | [], fs, vs, n, r => by
    have : vs = [] := List.length_eq_zero_iff.mp n.symm
    subst this
    refine ⟨[v], rfl, rfl, ?_⟩
    have : putD f d [] fs = [d] := by unfold putD; rfl
    rw [this]
    exact Rs_cons.mpr ⟨v, [], rfl, rv, Rs_nil.mpr rfl⟩
  | k :: ks, [], vs, n, r => by
    rw [Rs_nil.mp r] at n
    cases n
  | k :: ks, x :: fs, vs, n, r => by
    obtain ⟨w, l, rfl, h1, h2⟩ := Rs_cons.mp r
    have n' : ks.length = l.length := by simpa using n
    show ∃ ws, (nms (putK f (k :: ks))).zip ws = putF (Str.ofString f) v ((Str.ofString k, w) :: (nms ks).zip l) ∧ _
    unfold putK putD putF
    by_cases h : k = f
    · subst h
      rw [if_pos rfl, if_pos rfl, if_pos rfl]
      exact ⟨v :: l, rfl, by simpa using n', Rs_cons.mpr ⟨v, l, rfl, rv, h2⟩⟩
    · rw [if_neg h, if_neg h, if_neg fun z => h (ofString_inj.mp z)]
      obtain ⟨ws, e1, e2, e3⟩ := put_ok rv n' h2
      refine ⟨w :: ws, ?_, by simpa using e2, Rs_cons.mpr ⟨w, ws, rfl, h1, e3⟩⟩
      show (Str.ofString k, w) :: (nms (putK f ks)).zip ws = _
      rw [e1]
def putAt (i : Nat) (f : String) (cs : List String) (d : D) (ev : Ev) : Option Ev := match ev[i]? with
  | some (some (.own (.ins C ks fs))) => if cs.contains C && decide (ks.length < 1000) then some (ev.set i (some (.own (.ins C (putK f ks) (putD f d ks fs))))) else none
  | some (some (.bor (.ins C ks fs))) => if cs.contains C && decide (ks.length < 1000) then some (ev.set i (some (.bor (.ins C (putK f ks) (putD f d ks fs))))) else none
  | _ => none
def sPut (i : Nat) (f : String) (cs : List String) (ca : M D) : MS := sE ca fun d => sOpt (putAt i f cs d)
section
variable {X : Cx} {W : WX} {o e : Expr} {pos p' : Pos}
theorem ss_put (i : Nat) {x : Str} {f : String} {cs : List String} {ca : M D} {p : Pos} (A : AtT X.K f cs) (hN : X.N[i]? = some x) (hv : Vis X.env.scope x) (ha : SE X W e ca)
    (hs : swapsWith e (some (.Attribute (.Name x p) (Str.ofString f) p')) pos.line X.env = pure false := by rfl) (hd : (x == ("__debug__" : Str)) = false := by decide +kernel) (hcd : (x == ("__classdict__" : Str)) = false := by decide +kernel) :
    SS X W (.Assign [.Attribute (.Name x p) (Str.ofString f) p'] e pos) (sPut i f cs ca) := by
  obtain ⟨ta, pa, sa⟩ := ha
  refine ⟨_, ps_fld (pe_var hN hv hd hcd) pa hs, fun σ ev I H En rel h => ?_⟩
  refine sa σ ev I H _ rel (h.expr.imp fun d ev1 I1 H1 s1 r1 h1 v rv => ?_)
  obtain ⟨ev2, e2, k⟩ := h1.opt
  have go : ∀ (s : SV) (C : String) (ks : List String) (fs : List D), ev1[i]? = some (some s) → (s = .own (.ins C ks fs) ∨ s = .bor (.ins C ks fs)) → C ∈ cs → ks.length < 1000 → ev2 = ev1.set i (some (kindTo s (.ins C (putK f ks) (putD f d ks fs)))) →
      tVar i σ H1 fun x H2 => ∃ a C dx fs, x = .ref a ∧ H2 a = some (.ins C dx fs) ∧ Cls X.K C ∧ NoAttr X.K C (Str.ofString f) ∧ fs.length < 1000 ∧ En.nx σ (upd H2 a (.ins C dx (putF (Str.ofString f) v fs))) := fun s C ks fs e3 e4 e5 e6 e7 => by
    have hcell : s.isCell = true := by rcases e4 with rfl | rfl <;> rfl
    obtain ⟨p, c, g1, g2, g3, g4⟩ := r1.cell e3 hcell
    have hcl : c = .ins C ks fs := by rcases e4 with rfl | rfl <;> rcases g4 with g4 | g4 <;> first | (cases g4; rfl) | cases g4
    subst hcl
    obtain ⟨dx, vs, e8, n, rs⟩ := g3
    obtain ⟨ws, q1, q2, q3⟩ := put_ok (f := f) rv n rs
    refine ⟨.ref p, g1, p, _, dx, _, rfl, e8, A.cl C e5, A.no C e5, ?_, ?_⟩
    · have : ((nms ks).zip vs).length ≤ (nms ks).length := by rw [List.length_zip]; exact Nat.min_le_left ..
      have : (nms ks).length = ks.length := by unfold nms; simp
      omega
    · subst e7
      rw [← q1]
      obtain ⟨s3, r3⟩ := write_cell (c := .ins C (putK f ks) (putD f d ks fs)) (o := .ins (cad X.K C) dx ((nms (putK f ks)).zip ws)) r1 e3 hcell g1 g2 (by rw [e8]; exact fun z => by cases z) ⟨dx, ws, upd_same, q2, q3⟩
      exact k σ I1 _ s3 r3
  unfold putAt at e2
  split at e2
  · rename_i C ks fs e4
    split at e2
    · rename_i hc
      cases e2
      obtain ⟨c1, c2⟩ := and_tt hc
      exact go _ C ks fs e4 (.inl rfl) (by simpa using c1) (of_decide_eq_true c2) rfl
    · cases e2
  · rename_i C ks fs e4
    split at e2
    · rename_i hc
      cases e2
      obtain ⟨c1, c2⟩ := and_tt hc
      exact go _ C ks fs e4 (.inr rfl) (by simpa using c1) (of_decide_eq_true c2) rfl
    · cases e2
  · cases e2
def tMakeG (C : Addr) (n : Nat) (sp : Sp) (pm : List (Arg V)) (E : St → XK) (t : TA) : TE := fun σ H Q => t σ H fun vs H1 => vs.length = n ∧ ∀ x dx, H1 x = none → H1 dx = none → dx ≠ x →
  sp (arr .non pm (.ref x :: vs)) (upd (upd H1 dx (.own x)) x (.ins C dx [])) (fun v H2 => v = .non ∧ Q (.ref x) H2) (E σ)
theorem pe_makeG {x : String} {C f : Addr} {k n : Nat} {ks : List Str} {kws : List Keyword} {es : List Expr} {p : Pos} {t : TA} {fd : FuncData} {ps : List Str} {pm : List (Arg V)} {sp : Sp} (F : FnOk X.prog X.w X.K X.mg X.base (L2.CX X.prog X.w) k f fd ps sp)
    (hb : Bd X.K fd ps (n + 1) ks pm) (M : Mk X.K C f) (hm : X.mg (Str.ofString x) = some (.ref C)) (hr : Room (k + 1) X.A) (tk : Takes X W) (hg : Gl X (Str.ofString x))
    (ha : CArg X pos es kws n ks t) (hdb : (Str.ofString x == ("__debug__" : Str)) = false) : PE X (.Call (.Name (Str.ofString x) p) es kws pos) (tMakeG C (n + ks.length) sp pm (WE W) t) := by
  refine ⟨fun pins s σ H Q I hw => wpAny_Call_Name_kw (ld_glob I hg hm ?_ hdb)⟩
  have h := hw
  refine ha.run (.ref C) [] pins _ σ H _ _ M.kp I h fun us ws vs s H I r l1 l2 q => ?_
  have hq := q (s.heap.objs.size + 1) s.heap.objs.size (I.hok.fresh (Nat.le_succ _)) (I.hok.fresh (Nat.le_refl _)) (Nat.ne_of_lt (Nat.lt_succ_self _))
  have I2 : Inv X _ _ _ _ := Inv.made (C := C) I
  obtain ⟨us', b2, r2⟩ := hb { s with heap := (s.heap.push PySem.W.emptyDict).push (PySem.W.instObj C s.heap.objs.size) } (Value.ref (s.heap.objs.size + 1) :: us) ws (V.ref (s.heap.objs.size + 1) :: vs) I2.kIn (.cons (show RelV (V.ref (s.heap.objs.size + 1)) (Value.ref (s.heap.objs.size + 1)) from rfl) r) (by rw [List.length_cons, l1]) l2
  show wpAny (model X.prog X.w) X.A (call (.ref C) us (ks.zip ws)) (EP X pins σ Q) X.xe s
  refine wpAny_call (make_map (f := f) I.kIn M.makes M.init (beq_iff_eq.mp M.fn) (codeAny_mono (F.run _ X.stack _ _ ⟨Value.ref (s.heap.objs.size + 1) :: us, ks.zip ws⟩ _ _ _ (WE W σ) (hr.make C us (ks.zip ws))
    (I2.env0.make C us (ks.zip ws)) b2 r2 hq) fun r s' hqz => ?_))
  cases r with
  | error e => exact passAt tk σ pins _ _ e s' I2 hqz
  | ok fl =>
    cases fl with
    | ret u =>
      obtain ⟨v, H', I3, rv, ev, q3⟩ := I2.after hqz
      subst ev
      refine ⟨rv, V.ref (s.heap.objs.size + 1), H', I3, rfl, q3⟩
    | next => exact False.elim hqz
    | brk => exact False.elim hqz
    | cont => exact False.elim hqz
def frNon : RV → Option Unit
  | .d .non => some ()
  | _ => none
/-- a new instance for __init__ -/
def makeM (C : String) (m : FM) (dpm : List (Arg D)) (ars : List AR) : M Cell := fun ev => match callM frNon m [] (arrA dpm (.sl ev.length :: ars)) (ev ++ [some (.own (.ins C [] []))]) with
  | none => none
  | some (.er e ev') => some (.er e (ev'.take ev.length))
  | some (.ok _ ev') => match ev'[ev.length]? with
    | some (some (.own c)) => some (.ok c (ev'.take ev.length))
    | _ => none
def mMake (C : String) (m : FM) (dpm : List (Arg D)) (n : Nat) (ca : M (List AR)) : M Cell := ca.bind fun ars => fun ev => if ars.length = n then makeM C m dpm ars ev else none
theorem take_get {α : Type} {l : List α} {n i : Nat} {a : α} (h : (l.take n)[i]? = some a) : i < n ∧ l[i]? = some a := by
  rw [List.getElem?_take] at h
  split at h
  · rename_i hi
    exact ⟨hi, h⟩
  · cases h
theorem app_get {α : Type} {l : List α} {x y : α} {i : Nat} (h : (l ++ [x])[i]? = some y) : (i < l.length ∧ l[i]? = some y) ∨ (i = l.length ∧ y = x) := by
  by_cases hi : i < l.length
  · rw [List.getElem?_append_left hi] at h
    exact .inl ⟨hi, h⟩
  · rw [List.getElem?_append_right (by omega)] at h
    have h0 : i - l.length = 0 := by
      have := (List.getElem?_eq_some_iff.mp h).1
      simp at this
      omega
    rw [h0] at h
    exact .inr ⟨by omega, (by simpa using h.symm)⟩
theorem make_post {K : PySem.W.Frag} {C : String} {m : FM} {dpm : List (Arg D)} {ars : List AR} {vs : List V} {σ : St} {ev : Ev} {I H H0 : Hp} {Q : VK} {pm : List (Arg V)} {x dx : Addr} (hd : Paired (SumR (R K fun _ => none)) dpm pm) (r : Rel K σ ev I H) (hx : H x = none) (hdx : H dx = none) (hne : dx ≠ x)
    (h0 : ∀ p, H p = none → H0 p = none) (h : Post K W (makeM C m dpm ars) σ ev I H (RF K σ H0 Q)) (p : Paired (ArV K I σ) ars vs) :
    spF K m (arr .non pm (.ref x :: vs)) (upd (upd H dx (.own x)) x (.ins (cad K C) dx [])) (fun v H2 => v = .non ∧ Q (.ref x) H2) (WE W σ) := by
  have hI := (r.fresh hx).1
  have hO := (r.fresh hx).2
  have len := r.len
  have keep : ∀ a o, H a = some o → (upd (upd H dx (.own x)) x (.ins (cad K C) dx [])) a = some o := fun a o e => by
    rw [upd_ne (ne_of_none e hx), upd_ne (ne_of_none e hdx)]
    exact e
  have lt : ∀ {i : Nat} {v : Option V}, σ[i]? = some v → i < σ.length := fun {i v} e => (List.getElem?_eq_some_iff.mp e).1
  have sl : ∀ {i : Nat} {v : Option V}, σ[i]? = some v → (σ ++ [some (V.ref x)])[i]? = some v := fun {i v} e => by rw [List.getElem?_append_left (lt e)]; exact e
  have last : (σ ++ [some (V.ref x)])[σ.length]? = some (some (V.ref x)) := by simp
  -- the frame with the new instance
  have rp : Rel K (σ ++ [some (V.ref x)]) (ev ++ [some (.own (.ins C [] []))]) I (upd (upd H dx (.own x)) x (.ins (cad K C) dx [])) := by
    refine ⟨by simp [len], fun a o e => keep a o (r.sub a o e), fun i s e => ?_, fun i j s t a e1 e2 c1 c2 g1 g2 => ?_⟩
    · rcases app_get e with ⟨_, z⟩ | ⟨hi, z⟩
      · obtain ⟨v, h1, h2⟩ := r.slot i s z
        refine ⟨v, sl h1, ?_⟩
        cases s with
        | d d => exact h2
        | own c => obtain ⟨q, e1, e2, e3⟩ := h2; exact ⟨q, e1, e2, e3.mono (Le.refl _) fun o => keep q o⟩
        | bor c => obtain ⟨q, e1, e2, e3⟩ := h2; exact ⟨q, e1, e2, e3.mono (Le.refl _) fun o => keep q o⟩
      · cases z
        exact ⟨.ref x, by rw [hi, len]; exact last, x, rfl, hI, dx, [], upd_same, rfl, Rs_nil.mpr rfl⟩
    · have own : ∀ (i : Nat) (s : SV), (ev ++ [some (.own (.ins C [] []))])[i]? = some (some s) → s.isCell = true → (σ ++ [some (V.ref x)])[i]? = some (some (.ref a)) → (i = ev.length ∧ a = x) ∨ (ev[i]? = some (some s) ∧ σ[i]? = some (some (.ref a))) := fun i s e c g => by
        rcases app_get e with ⟨hi, e⟩ | ⟨rfl, _⟩
        · rw [List.getElem?_append_left (by omega)] at g
          exact .inr ⟨e, g⟩
        · rw [len, last] at g
          cases g
          exact .inl ⟨rfl, rfl⟩
      rcases own i s e1 c1 g1 with ⟨rfl, rfl⟩ | ⟨k1, k2⟩
      · rcases own j t e2 c2 g2 with ⟨rfl, _⟩ | ⟨k3, k4⟩
        · rfl
        · exact absurd ⟨j, t, k3, c2, k4⟩ hO
      · rcases own j t e2 c2 g2 with ⟨rfl, rfl⟩ | ⟨k3, k4⟩
        · exact absurd ⟨i, s, k1, c1, k2⟩ hO
        · exact r.sep i j s t a k1 k3 c1 c2 k2 k4
  -- back
  have back : ∀ ev' I' H', KE (ev ++ [some (.own (.ins C [] []))]) ev' → Step (σ ++ [some (V.ref x)]) (ev ++ [some (.own (.ins C [] []))]) I (upd (upd H dx (.own x)) x (.ins (cad K C) dx [])) (σ ++ [some (V.ref x)]) ev' I' H' → Rel K (σ ++ [some (V.ref x)]) ev' I' H' →
      Step σ ev I H σ (ev'.take ev.length) I' H' ∧ Rel K σ (ev'.take ev.length) I' H' ∧ ¬ Own σ (ev'.take ev.length) x := fun ev' I' H' ke s' r' => by
    have back1 : ∀ a, Own σ (ev'.take ev.length) a → Own σ ev a := fun a ⟨i, t, e, c, g⟩ => by
      obtain ⟨hi, e⟩ := take_get e
      obtain ⟨t', e', c', _⟩ := ke.cell e c
      rcases app_get e' with ⟨_, e'⟩ | ⟨z, _⟩
      · exact ⟨i, t', e', c', g⟩
      · omega
    have back2 : ∀ a, LOwn σ (ev'.take ev.length) a → LOwn σ ev a := fun a ⟨i, t, e, c, g⟩ => by
      obtain ⟨hi, e⟩ := take_get e
      obtain ⟨t', e', c', o'⟩ := ke.cell e (by cases t <;> first | rfl | (cases c))
      rcases app_get e' with ⟨_, e'⟩ | ⟨z, _⟩
      · exact ⟨i, t', e', o'.trans c, g⟩
      · omega
    have fwd1 : ∀ a, Own (σ ++ [some (V.ref x)]) (ev ++ [some (.own (.ins C [] []))]) a → Own σ ev a ∨ a = x := fun a ⟨i, t, e, c, g⟩ => by
      rcases app_get e with ⟨hi, e⟩ | ⟨rfl, _⟩
      · rw [List.getElem?_append_left (by omega)] at g
        exact .inl ⟨i, t, e, c, g⟩
      · rw [len, last] at g
        cases g
        exact .inr rfl
    refine ⟨⟨fun a o e n => ?_, fun a e => ?_, s'.le, fun a e i n => ?_, fun a w => .inl (back1 a w), fun a w => .inl (back2 a w), fun i c e => ?_⟩, ⟨?_, r'.sub, fun i t e => ?_, fun i j t t' a e1 e2 c1 c2 g1 g2 => ?_⟩, fun w => hO (back1 x w)⟩
    · exact s'.keep a o (keep a o e) fun w => (fwd1 a w).elim n fun z => by rw [z, hx] at e; cases e
    · refine s'.there a fun z => ?_
      cases q : H a with
      | none => exact e q
      | some o => rw [keep a o q] at z; cases z
    · refine s'.new a (fun z => ?_) i fun w => ?_
      · cases q : H a with
        | none => exact e q
        | some o => rw [keep a o q] at z; cases z
      · obtain ⟨j, t, e1, c, g⟩ := w
        rcases app_get e1 with ⟨hi, e1⟩ | ⟨rfl, _⟩
        · rw [List.getElem?_append_left (by omega)] at g
          exact n ⟨j, t, e1, c, g⟩
        · rw [len, last] at g
          cases g
          exact e hx
    · have hi := (List.getElem?_eq_some_iff.mp e).1
      obtain ⟨⟨c', h1⟩, _⟩ := s'.bor i c (by rw [List.getElem?_append_left hi]; exact e)
      exact ⟨⟨c', by rw [List.getElem?_take, if_pos hi]; exact h1⟩, rfl⟩
    · have := r'.len
      simp at this ⊢
      omega
    · obtain ⟨hi, e⟩ := take_get e
      obtain ⟨v, h1, h2⟩ := r'.slot i t e
      rw [List.getElem?_append_left (by omega)] at h1
      exact ⟨v, h1, h2⟩
    · obtain ⟨hi, e1⟩ := take_get e1
      obtain ⟨hj, e2⟩ := take_get e2
      exact r'.sep i j t t' a e1 e2 c1 c2 (by rw [List.getElem?_append_left (by omega)]; exact g1) (by rw [List.getElem?_append_left (by omega)]; exact g2)
  have pp : Paired (ArV K I (σ ++ [some (V.ref x)])) (.sl ev.length :: ars) (.ref x :: vs) := .cons (show (σ ++ [some (V.ref x)])[ev.length]? = _ by rw [len]; exact last) (Paired.imp' (fun a b q => by
    cases a with
    | d d => exact q
    | sl i => exact sl q) p)
  have pq := arr_rel (F := ArV K I (σ ++ [some (V.ref x)])) (z := AR.d .non) (z' := V.non) (show R K I .non .non from R_non.mpr rfl) pp (ArV_arr hd)
  have hpost : Post K (fun cls d _ H => W cls d σ H) (callM frNon m [] (arrA dpm (.sl ev.length :: ars))) (σ ++ [some (V.ref x)]) (ev ++ [some (.own (.ins C [] []))]) I (upd (upd H dx (.own x)) x (.ins (cad K C) dx [])) (fun _ ev' I' H' => (∀ v, v = V.non → Q (.ref x) H')) := by
    unfold Post makeM at h
    unfold Post
    cases q : callM frNon m [] (arrA dpm (.sl ev.length :: ars)) (ev ++ [some (.own (.ins C [] []))]) with
    | none => rw [q] at h; exact h
    | some o =>
      have kk : ∀ ev', (∃ z, o = .ok z ev') ∨ (∃ z, o = .er z ev') → KE (ev ++ [some (.own (.ins C [] []))]) ev' := fun ev' hz => by
        unfold callM at q
        split at q
        · cases q
        · split at q
          · split at q
            · cases q
            · obtain ⟨z, q1, q2⟩ := Option.map_eq_some_iff.mp q
              subst q2
              rcases hz with ⟨_, hz⟩ | ⟨_, hz⟩ <;> cases hz
              exact putB_ke ..
            · cases q
              rcases hz with ⟨_, hz⟩ | ⟨_, hz⟩ <;> cases hz
              exact putB_ke ..
          · cases q
      rw [q] at h
      cases o with
      | er z ev' =>
        intro I' H' dd s' r' xd
        obtain ⟨s2, r2, _⟩ := back ev' I' H' (kk ev' (.inr ⟨z, rfl⟩)) s' r'
        exact h I' H' dd s2 r2 xd
      | ok z ev' =>
        intro I' H' s' r' v _
        obtain ⟨s2, r2, no⟩ := back ev' I' H' (kk ev' (.inl ⟨z, rfl⟩)) s' r'
        simp only at h
        cases e : ev'[ev.length]? with
        | none => rw [e] at h; exact h.elim
        | some o =>
          rw [e] at h
          cases o with
          | none => exact h.elim
          | some s =>
            cases s with
            | d d => exact h.elim
            | bor c => exact h.elim
            | own c =>
              obtain ⟨w, g1, q', hw, g2, g3⟩ := r'.slot _ _ e
              rw [len, last] at g1
              cases g1
              cases hw
              exact h I' H' s2 r2 x (h0 x hx) g2 no g3
  have fin := sp_of (dvs := []) (Q := fun v H2 => v = .non ∧ Q (.ref x) H2) rp hpost pq (Rs_nil.mpr rfl) fun rv a ev' I' H' v ef ke s r' g rvv => by
    have hv : v = .non := by
      unfold frNon at ef
      split at ef
      · exact R_non.mp (show R K I' .non v from rvv)
      · cases ef
    exact ⟨hv, g I' s r' v hv⟩
  rw [List.append_nil] at fin
  exact fin
/-- a class that is made with n values and keywords ks -/
def CSite (P : Program) (w : World) (K : PySem.W.Frag) (mg : Str → Option Value) (base : Heap) (C : String) (k n : Nat) (ks : List Str) (m : FM) (dpm : List (Arg D)) : Prop := ∃ f : Addr, Mk K (cad K C) f ∧ Site P w K mg base f k (n + 1) ks m dpm
theorem sef_make {x C : String} {k n : Nat} {ks : List Str} {kws : List Keyword} {es : List Expr} {p : Pos} {ca : M (List AR)} {m : FM} {dpm : List (Arg D)} (F : CSite X.prog X.w X.K X.mg X.base C k n ks m dpm) (hm : X.mg (Str.ofString x) = some (.ref (cad X.K C))) (hr : Room (k + 1) X.A) (tk : Takes X W) (hg : Gl X (Str.ofString x)) (ha : SC X W pos es kws n ks ca)
    (hdb : (Str.ofString x == ("__debug__" : Str)) = false := by decide +kernel) : SEF X W (.Call (.Name (Str.ofString x) p) es kws pos) (mMake C m dpm (n + ks.length) ca) := by
  obtain ⟨f, M, fd, ps, pm, hF, hb, hd⟩ := F
  obtain ⟨t, pa, sa⟩ := ha
  refine ⟨_, pe_makeG hF hb M hm hr tk hg pa hdb, fun σ ev I H Q rel h => ?_⟩
  refine sa σ ev I H _ rel ((Post.bind h).imp fun ars ev1 I1 H1 s1 r1 h1 vs pv => ?_)
  unfold Post at h1
  by_cases e : ars.length = n + ks.length
  · simp only [e, if_true] at h1
    refine ⟨by rw [← Paired.len' pv, e], fun x dx hx hdx hne => ?_⟩
    exact make_post hd r1 hx hdx hne (fun q z => Classical.byContradiction fun hn => s1.there q hn z) h1 pv
  · simp only [e, if_false] at h1
end
end FL
set_option Elab.async false
set_option linter.all false
set_option maxRecDepth 100000
set_option maxHeartbeats 4000000
namespace FL
open PySem
open PySem.Spec
open L2
inductive XB where
  | ve | oe | le | re
def XB.nm : XB → String
  | .ve => "ValueError" | .oe => "OverflowError" | .le => "LookupError" | .re => "RuntimeError"
def XB.new : XB → String
  | .ve => "ValueError.__new__" | .oe => "OverflowError.__new__" | .le => "LookupError.__new__" | .re => "RuntimeError.__new__"
def XB.ini : XB → String
  | .ve => "ValueError.__init__" | .oe => "OverflowError.__init__" | .le => "LookupError.__init__" | .re => "RuntimeError.__init__"
def XB.mro : XB → List Value
  | .ve => [.type "ValueError", .type "Exception", .type "BaseException", .type "object"] | .oe => [.type "OverflowError", .type "ArithmeticError", .type "Exception", .type "BaseException", .type "object"]
  | .le => [.type "LookupError", .type "Exception", .type "BaseException", .type "object"] | .re => [.type "RuntimeError", .type "Exception", .type "BaseException", .type "object"]
theorem XB.base : ∀ b : XB, ExcBaseFacts b.nm b.new b.ini b.mro
  | .ve => F.excBase_ValueError | .oe => F.excBase_OverflowError | .le => F.excBase_LookupError | .re => F.excBase_RuntimeError
theorem XB.store : ∀ b : XB, StoreFacts b.nm b.mro "object.__setattr__" "object"
  | .ve => F.store_ValueError | .oe => F.store_OverflowError | .le => F.store_LookupError | .re => F.store_RuntimeError
theorem XB.boot : ∀ b : XB, bootBuiltins (Str.ofString b.nm) = some (.type b.nm)
  | .ve => PyProof.Rows.Boot.«ValueError» | .oe => PyProof.Rows.Boot.«OverflowError» | .le => PyProof.Rows.Boot.«LookupError» | .re => PyProof.Rows.Boot.«RuntimeError»
theorem XB.typ : ∀ b : XB, typeOf (.type b.nm) = pure (.type "type")
  | .ve => PySem.OEX.typ_VE | .oe => by kernel_rfl | .le => by kernel_rfl | .re => by kernel_rfl
theorem XB.stub : ∀ b : XB, Manifest.isStub b.nm = false
  | .ve => by decide +kernel | .oe => by decide +kernel | .le => by decide +kernel | .re => by decide +kernel
theorem XB.handed (b : XB) : PySem.W.handedIn (Value.builtin b.ini) = true := by cases b <;> decide +kernel
/-- what the written part says of an own exception class -/
structure OxB (K : PySem.W.Frag) (C : Addr) (b : XB) : Prop where
  cls : PySem.W.excInitIn K C b.mro b.new = true
  over : PySem.W.excOver K C b.mro = true
  dict : PySem.W.hasDictIn K C = true
  stor : PySem.W.findIn K (.ref C) "__setattr__" = some (some (.builtin "object.__setattr__"))
  exc : PySem.W.subIn K (.ref C) (.type "BaseException") = some true
  typ : PySem.W.typeIn K (.ref C) = some (.type "type")
  kpo : PySem.W.keepIn K (.ref C) = true
section
variable {X : Cx} {pins : List (Addr × Obj)} {σ : St} {H : Hp} {s : Shared} {a C : Addr} {f : Str} {y : V} {u : Value} {Q : Unit → Shared → Prop} {E : Value → Shared → Prop} {A : Around} {b : XB}
/-- the one store: self.f = y -/
theorem ox_store (T : OxB X.K C b) (I : Inv X pins σ H s) (e : H a = some (exo a C none)) (hno : PySem.W.findIn X.K (.ref C) f = some none) (ry : RelV y u)
    (h : ∀ dq s', H dq = none → dq ≠ a → Inv X pins σ (upd (upd H dq (exd dq [(f, y)])) a (exo a C (some dq))) s' → Q () s') : wpAny (model X.prog X.w) A (setAttr (.ref a) f u) Q E s := by
  obtain ⟨t1, hob⟩ := exo_at I.hok e
  obtain ⟨cld, hcd, hhd⟩ := PySem.W.any_some T.dict
  obtain ⟨hpx, g, d, t, os⟩ := s
  have at0 : PySem.W.InstAt hpx a { cls := .ref C, dict := none, data := .fields #[.ref t1, .none, .none, .none, .bool false, .none] } C none := ⟨hob, rfl, rfl, trivial⟩
  have hxs : a ≠ hpx.objs.size := Nat.ne_of_lt (Heap.lt_size hob)
  have hcls : PySem.W.Looks (model X.prog X.w) hpx (classData C) cld := PySem.W.looks_clsIn I.kIn hcd
  have fin : ∀ h' tk' dq, (∀ c o, c ≠ a → hpx.get? c = some o → h'.get? c = some o) → hpx.objs.size ≤ dq → dq ≠ a → h'.get? a = some { cls := .ref C, dict := some dq, data := .fields #[.ref t1, .none, .none, .none, .bool false, .none] } →
      h'.Ns1 dq (fun z => if z = f then some u else none) → Q () ⟨h', g, d, tk', os⟩ := fun h' tk' dq k dn dne hx hnw => by
    have hnd : H dq = none := I.hok.fresh dn
    have nd : ∀ {c : Addr} {o : Obj}, hpx.get? c = some o → c ≠ dq := fun {c o} q => Nat.ne_of_lt (Nat.lt_of_lt_of_le (Heap.lt_size q) dn)
    have na : ∀ {c : Addr}, H c = none → c ≠ a := fun {c} n z => by
      rw [z, e] at n
      cases n
    have U : Un X.fs [] H (upd (upd H dq (exd dq [(f, y)])) a (exo a C (some dq))) hpx h' := by
      refine ⟨fun c o q n _ _ => k c o (na n) q, fun c o q n _ _ => ⟨o.slots, k c o (na n) q⟩, fun c o q n _ => ?_, fun c o q _ => ?_, fun c xs q => ?_, fun c o v q => ?_, fun c ps q => ⟨#[], ?_⟩⟩
      · rw [upd_ne (na n), upd_ne (nd q)]
        exact n
      · by_cases hcb : c = a
        · exact ⟨_, by rw [hcb]; exact hx⟩
        · exact ⟨o, k c o hcb q⟩
      · rw [upd_ne (at_ne e q exo_tup), upd_ne (ne_of_none q hnd)]
        exact q
      · rw [upd_ne (at_ne e q exo_frz), upd_ne (ne_of_none q hnd)]
        exact q
      · rw [upd_ne (at_ne e q exo_tbl), upd_ne (ne_of_none q hnd), q]
        simp
    refine h dq _ hnd dne (I.un (t' := tk') U fun c o q => ?_)
    by_cases hcb : c = a
    · subst hcb
      rw [upd_same] at q
      cases q
      exact exo_ok hx
    · rw [upd_ne hcb] at q
      by_cases hd : c = dq
      · subst hd
        rw [upd_same] at q
        cases q
        exact exd_ok hnw (relO_put (fs := []) ry fun g => True.intro)
      · rw [upd_ne hd] at q
        refine (I.hok c o q).stay (fun z v hc w => k z v ?_ w) (fun z hc => ?_) fun z xs hc => ?_
        · rcases hc with hc | hc
          · rw [hc]
            exact hcb
          · exact at_ne e hc exo_own
        · rw [upd_ne (at_ne e hc exo_own), upd_ne (ne_of_none hc hnd)]
          exact hc
        · rw [upd_ne (at_ne e hc exo_tup), upd_ne (ne_of_none hc hnd)]
          exact hc
  refine PySem.W.set_plain I.kIn at0 T.stor (PySem.W.osa_openX b.store I.kIn at0 T.over (NoAttr.taker hno) fun q => ?_)
  show wpAny _ _ (Builtin.ObjectAttr.storeInOwnDict (.ref a) (.ref C) (.str f _) f u q) _ _ _
  obtain ⟨nm, bs, mro, ns, qn, hd, sn, sb, ab, col, del⟩ := cld
  dsimp only at hhd
  subst hhd
  unfold Builtin.ObjectAttr.storeInOwnDict
  unfold Builtin.ObjectAttr.ownDictForStores
  repeat (first | with_reducible refine PySem.HandSPX.store_in_new ?_ ?_ | with_reducible refine hcls.at ?_ | with_reducible refine wpAny_loadPart_at hob ?_ | wp_step)
  · exact ⟨_, #[], _, (Heap.get?_update_ne _ _ _ _ hxs.symm).trans (Heap.get?_push_at rfl rfl), rfl, fun z hz => absurd hz (by simp), fun _ => rfl⟩
  · intro h' tk' hn' hs
    have ho2 : (hpx.push { cls := .type "dict", data := .dict #[] }).get? a = some { cls := .ref C, dict := none, data := .fields #[.ref t1, .none, .none, .none, .bool false, .none] } := Heap.get?_push_of_some _ hob
    refine fin h' tk' hpx.objs.size (fun c o hc q => ?_) (Nat.le_refl _) hxs.symm ?_ hn'
    · exact (hs.2 c (Nat.ne_of_lt (Heap.lt_size q))).trans ((Heap.get?_update_ne _ _ _ _ hc).trans (Heap.get?_push_of_some _ q))
    · exact (hs.2 a hxs).trans (Heap.get?_update_self _ ho2 rfl)
/-- B.__init__(self, ..): nothing of it is told -/
theorem ox_init {uus : List Value} {Q : Value → Shared → Prop} (T : OxB X.K C b) (I : Inv X pins σ H s) (e : H a = some (exo a C none)) (hl : uus.length ≤ sizeLine) (h : ∀ s', Inv X pins σ H s' → Q .none s') :
    wpAny (model X.prog X.w) A (call (.builtin b.ini) (.ref a :: uus)) Q E s := by
  obtain ⟨nm, N', qn, bs, bm, hdct, sn, sub, ab, col, dd, k0, k1, k2, k3, k5, hC, hT⟩ := PySem.W.excInit_of I.kIn T.cls
  obtain ⟨t1, hob⟩ := exo_at I.hok e
  obtain ⟨hpx, g, d, t, os⟩ := s
  refine wpAny_call (PySem.HandSPX.init_base b.base hT hC hob hl fun h' t2 k hx => h _ ?_)
  have JW := I.write (t' := t) (x := a) (e := a) (o := exo a C none) (by rw [e]; exact True.intro) (.inl rfl) k ⟨_, hx⟩ (exo_ok hx)
  have eu : upd H a (exo a C none) = H := funext fun c => by
    by_cases hcb : c = a
    · rw [hcb, upd_same, e]
    · rw [upd_ne hcb]
  rw [eu] at JW
  exact JW
end
def tBI (K : PySem.W.Frag) (b : XB) (ta : TA) : TE := fun σ H Q => ta σ H fun vs H1 => ∃ (a C : Addr) (ws : List V), vs = .ref a :: ws ∧ ws.length ≤ 1000 ∧ OxB K C b ∧ H1 a = some (exo a C none) ∧ Q .non H1
def sOx (K : PySem.W.Frag) (b : XB) (f : Str) (to te : TE) : TS := fun D σ H => te σ H fun y H1 => to σ H1 fun x H2 => ∃ a C : Addr, x = .ref a ∧ OxB K C b ∧ PySem.W.findIn K (.ref C) f = some none ∧ H2 a = some (exo a C none) ∧
  ∀ dq, H2 dq = none → dq ≠ a → D.nx σ (upd (upd H2 dq (exd dq [(f, y)])) a (exo a C (some dq)))
section
variable {X : Cx} {o e : Expr} {es : List Expr} {to te : TE} {ta : TA} {f : Str} {p p' p1 p2 pos : Pos} {b : XB}
theorem pe_binit {pl : Sem Bool} (hg : Gl X (Str.ofString b.nm)) (hm : X.mg (Str.ofString b.nm) = none) (vV : PySem.W.findCls X.K (.type b.nm) (.type "type") "__init__" = some (.val (.builtin b.ini))) (ha : PA X (e :: es) ta)
    (hc : eval (.Call (.Attribute (.Name (Str.ofString b.nm) p1) "__init__" p2) (e :: es) [] pos) X.env = (do
      let ov ← eval (.Name (Str.ofString b.nm) p1) X.env
      standAt p2.atName
      let (h, first) ← holding [ov] (getMethod ov "__init__" pl)
      callWith pos h first (backTo pos (starEach (e :: es) X.env)) (backToKw pos (keywordEach [] X.env))) := by rfl)
    (hea : starEach (e :: es) X.env = (false, eval e X.env) :: starEach es X.env := by rfl) (hpl : (backTo pos (starEach es X.env)).any (·.1) = false := by rfl)
    (hnw : Str.ofString b.nm ≠ "__name__" := by decide +kernel) (hd : (Str.ofString b.nm == ("__debug__" : Str)) = false := by decide +kernel) :
    PE X (.Call (.Attribute (.Name (Str.ofString b.nm) p1) "__init__" p2) (e :: es) [] pos) (tBI X.K b ta) := by
  refine ⟨fun pins s σ H Q I h => PySem.W.methodCall_KW (ld_blt I hg hm b.boot ?_ hnw hd) hc⟩
  obtain ⟨m, fr⟩ := I.fr
  refine PySem.W.method_type fr I.ok.mod.kin b.typ b.stub vV b.handed ?_
  show wpAny _ _ (callWith pos (Value.builtin b.ini) [] (backTo pos (starEach (e :: es) X.env)) []) _ _ _
  refine PyProof.Rows.callWith_method1 (thn (ha.run pos pins _ σ H _ (I.tok _) h) fun uus s1 hq => ?_) hea hpl
  obtain ⟨vs, H1, I1, r1, a, C, ws, ev, hl, T, ea, q⟩ := hq
  subst ev
  cases r1 with
  | @cons _ u0 _ ur rva rw' =>
    obtain rfl : u0 = Value.ref a := rva
    exact ox_init T I1 ea (by rw [← Paired.length rw', sizeLine_eq]; omega) fun s' JW => ⟨.non, H1, JW, rfl, q⟩
theorem ps_ox (b : XB) (hob : PE X o to) (hea : PE X e te) (hs : swapsWith e (some (.Attribute o f p')) pos.line X.env = pure false := by rfl) : PS X (.Assign [.Attribute o f p'] e pos) (sOx X.K b f to te) := by
  refine ⟨fun pins s σ H D I h => plainObj_wpAny_Assign_Attribute (thn (hea.run pins s σ H _ I h) fun v s1 hq => ?_) hs⟩
  obtain ⟨y, H1, I1, r1, q1⟩ := hq
  refine thn (hob.run pins s1 σ H1 _ I1 q1) fun u s2 hq => ?_
  obtain ⟨x, H2, I2, rz2, a, C, ex, T, hno, ea, q⟩ := hq
  subst ex
  obtain rfl : u = Value.ref a := rz2
  exact ox_store T I2 ea hno r1 fun dq s' n ne JW => ⟨σ, _, JW, q dq n ne⟩
end
def spX (C : Addr) (f : Str) : Sp := fun vs H Q _ => ∃ (a : Addr) (v : V), vs = [.ref a, v] ∧ H a = some (exo a C none) ∧ ∀ dq, H dq = none → dq ≠ a → Q .non (upd (upd H dq (exd dq [(f, v)])) a (exo a C (some dq)))
def tIn (K : PySem.W.Frag) (b : XB) (f : Str) : TS := tSeq (tDrop (tBI K b (tCons (tVar 0) (tCons (tC (.str "")) tNil)))) (sOx K b f (tVar 0) (tVar 1))
theorem init_body {X : Cx} {b : XB} {pl : Env → Sem Bool} {x1 x2 m f : Str} {j : Nat} {B : Str} {p1 p2 p3 p4 p5 p6 p7 p8 p9 p10 : Pos} (hB : B = Str.ofString b.nm) (n1 : X.N[0]? = some x1) (n2 : X.N[1]? = some x2) (v1 : Vis X.env.scope x1) (v2 : Vis X.env.scope x2) (hg : Gl X B) (hm : X.mg B = none)
    (vV : PySem.W.findCls X.K (.type b.nm) (.type "type") "__init__" = some (.val (.builtin b.ini)))
    (d1 : (x1 == ("__debug__" : Str)) = false := by decide +kernel) (c1 : (x1 == ("__classdict__" : Str)) = false := by decide +kernel) (d2 : (x2 == ("__debug__" : Str)) = false := by decide +kernel) (c2 : (x2 == ("__classdict__" : Str)) = false := by decide +kernel)
    (hnw : B ≠ "__name__" := by decide +kernel) (hd : (B == ("__debug__" : Str)) = false := by decide +kernel)
    (hc : ∀ env, eval (.Call (.Attribute (.Name B p1) "__init__" p2) [.Name x1 p3, .Constant (.str m) j p4] [] p5) env = (do
      let ov ← eval (.Name B p1) env
      standAt p2.atName
      let (h, first) ← holding [ov] (getMethod ov "__init__" (pl env))
      callWith p5 h first (backTo p5 (starEach [.Name x1 p3, .Constant (.str m) j p4] env)) (backToKw p5 (keywordEach [] env))))
    {body : List Stmt} (hcb : body = [.Expr (.Call (.Attribute (.Name B p1) "__init__" p2) [.Name x1 p3, .Constant (.str m) j p4] [] p5) p6, .Assign [.Attribute (.Name x1 p7) f p8] (.Name x2 p9) p10]) :
    PSs X body (tSeq (tDrop (tBI X.K b (tCons (tVar 0) (tCons (tC (.str m)) tNil)))) (sOx X.K b f (tVar 0) (tVar 1))) := by
  subst hcb hB
  exact pss_cons (ps_expr (pe_binit hg hm vV (pa_cons (pe_var n1 v1 d1 c1) (pa_cons pe_str pa_nil)) (hc X.env) rfl rfl hnw hd)) (pss_one (ps_ox b (pe_var n1 v1 d1 c1) (pe_var n2 v2 d2 c2) rfl))
theorem init_ok {P : Program} {w : World} {K : PySem.W.Frag} {mg : Str → Option Value} {base : Heap} {qual : Str} {params : Arguments} {body : List Stmt} {scope : Scope} {fI C : Addr} {fd : FuncData} {b : XB} {pl : Env → Sem Bool} {x1 x2 m f : Str} {j : Nat} {B : Str} {p1 p2 p3 p4 p5 p6 p7 p8 p9 p10 : Pos}
    (F : FunD K "__init__" qual params body scope [] [] fI fd) (S : FnScope [x1, x2] [x1, x2] scope) (T : OxB K C b) (hno : PySem.W.findIn K (.ref C) f = some none) (hB : B = Str.ofString b.nm) (v1 : Vis scope x1) (v2 : Vis scope x2)
    (hg : ∀ (cdv : Value) (A : Around) (outer : List Env) (s : Shared) (H : Hp) (E : XK), Gl (cxOf (L2.CX P w) P w K mg base [x1, x2] qual scope fI cdv A outer s H E) B) (hm : mg B = none)
    (vV : PySem.W.findCls K (.type b.nm) (.type "type") "__init__" = some (.val (.builtin b.ini)))
    (hc : ∀ env, eval (.Call (.Attribute (.Name B p1) "__init__" p2) [.Name x1 p3, .Constant (.str m) j p4] [] p5) env = (do
      let ov ← eval (.Name B p1) env
      standAt p2.atName
      let (h, first) ← holding [ov] (getMethod ov "__init__" (pl env))
      callWith p5 h first (backTo p5 (starEach [.Name x1 p3, .Constant (.str m) j p4] env)) (backToKw p5 (keywordEach [] env))))
    (hcb : body = [.Expr (.Call (.Attribute (.Name B p1) "__init__" p2) [.Name x1 p3, .Constant (.str m) j p4] [] p5) p6, .Assign [.Attribute (.Name x1 p7) f p8] (.Name x2 p9) p10])
    (d1 : (x1 == ("__debug__" : Str)) = false := by decide +kernel) (c1 : (x1 == ("__classdict__" : Str)) = false := by decide +kernel) (d2 : (x2 == ("__debug__" : Str)) = false := by decide +kernel) (c2 : (x2 == ("__classdict__" : Str)) = false := by decide +kernel)
    (hnw : B ≠ "__name__" := by decide +kernel) (hd : (B == ("__debug__" : Str)) = false := by decide +kernel) : FnOk P w K mg base (L2.CX P w) 1 fI fd [x1, x2] (spX C f) := by
  refine F.ok S (fun vs H Q E h => by obtain ⟨a, v, e, _⟩ := h; rw [e]; rfl) fun cdv A outer s H vs Q E hr h => ?_
  refine ⟨_, init_body (m := m) (j := j) hB rfl rfl v1 v2 (hg cdv A outer s H E) hm vV d1 c1 d2 c2 hnw hd hc hcb, ?_⟩
  obtain ⟨a, v, rfl, ea, q⟩ := h
  exact ⟨.ref a, rfl, a, C, [.str m], rfl, by simp, T, ea, v, rfl, .ref a, rfl, a, C, rfl, T, hno, ea, q⟩
theorem make_ox {X : Cx} {x : Str} {e : Expr} {ta : TE} {p pos : Pos} {C fI : Addr} {k : Nat} {fd : FuncData} {ps : List Str} {sp : Sp} {b : XB} (T : OxB X.K C b) (iC : PySem.W.findIn X.K (.ref C) "__init__" = some (some (.ref fI))) (tI : PySem.W.typeIn X.K (.ref fI) = some (.type "function"))
    (F1 : FnOk X.prog X.w X.K X.mg X.base (L2.CX X.prog X.w) k fI fd ps sp) (hr : Room (k + 1) X.A) (hcb : Binds X.K fd ps []) (hx : Passes (L2.CX X.prog X.w) X (fun _ _ _ => False)) (hg : Gl X x) (hm : X.mg x = some (.ref C)) (ha : PE X e ta)
    (hdb : (x == ("__debug__" : Str)) = false) (hea : starEach [e] X.env = (false, eval e X.env) :: starEach [] X.env := by rfl) (hpl : (backTo pos (starEach [] X.env)).any (·.1) = false := by rfl) :
    PMk X (.Call (.Name x p) [e] [] pos) (tMkO C sp [] (tCons ta tNil)) := by
  intro pins s σ H Q I h
  refine wpAny_Call_Name_kw (ld_glob I hg hm (PySem.W.callWith_K (h₀ := X.base) I.ok.mod.kin T.kpo (thn ((pa_cons ha pa_nil hea).run pos pins s σ H _ I h) fun uus s1 hq => ?_) hea hpl) hdb)
  obtain ⟨vs, H1, I1, r1, hz, q1⟩ := hq
  refine ⟨I1.kIn, ?_⟩
  show wpAny _ _ (call (.ref C) uus) _ _ _
  obtain ⟨hpx, g, dr, tk, os⟩ := s1
  obtain ⟨nm, N', qn, bs, bm, hdct, sn, sub, ab, col, dd, k0, k1, k2, k3, k5, hC, hT⟩ := PySem.W.excInit_of I1.kIn T.cls
  have hszl : hpx.objs.size ≤ hpx.objs.size + 1 := Nat.le_succ _
  have hq := q1 (hpx.objs.size + 1) (I1.hok.fresh hszl)
  rw [List.append_nil] at hq
  have kk : ∀ c o, hpx.get? c = some o → ((hpx.push (PySem.W.kdv_tup uus)).push (PySem.HandSPX.excO C hpx.objs.size)).get? c = some o := fun c o e => Heap.get?_push_of_some _ (Heap.get?_push_of_some _ e)
  have hget : ((hpx.push (PySem.W.kdv_tup uus)).push (PySem.HandSPX.excO C hpx.objs.size)).get? (hpx.objs.size + 1) = some (PySem.HandSPX.excO C hpx.objs.size) := by heap_get
  have I2 := I1.laid (t' := tk) (a := hpx.objs.size + 1) (o := exo (hpx.objs.size + 1) C none) (h' := (hpx.push (PySem.W.kdv_tup uus)).push (PySem.HandSPX.excO C hpx.objs.size)) kk hszl (exo_ok hget)
  have rz2 : Vals (V.ref (hpx.objs.size + 1) :: vs) (Value.ref (hpx.objs.size + 1) :: uus) := .cons rfl r1
  have hl : (Value.ref (hpx.objs.size + 1) :: uus ++ []).length = ps.length := by
    rw [List.append_nil, ← rz2.length]
    exact F1.len _ _ _ _ hq
  have b2 := hcb _ (Value.ref (hpx.objs.size + 1) :: uus) I2.kIn hl
  rw [List.append_nil] at b2
  refine wpAny_call (PySem.HandSPX.call_own b.base hT hC (PySem.W.looks_findIn I1.kIn iC) (fun self => PySem.W.bind_fn I1.kIn self tI) (by rw [← Paired.length r1, sizeLine_eq]; omega)
    (codeAny_mono (F1.run _ X.stack _ _ ⟨Value.ref (hpx.objs.size + 1) :: uus, []⟩ _ _ _ (fun _ _ _ => False) (hr.make C uus []) (I2.env0.make C uus []) b2 rz2 hq) fun r s' hqz => ?_))
  cases r with
  | error er => exact hx pins σ _ _ er s' I2 hqz
  | ok fl =>
    cases fl with
    | ret u =>
      obtain ⟨v, H2, os2, bare2, un2, hok2, rv, ev, d, fs, ea, ed, hd1, q2⟩ := hqz
      subst ev
      obtain ⟨hN2, gN2, dN2, tN2, osN⟩ := s'
      exact ⟨rv, mk_end (raises_own T.exc T.typ) I1 hszl kk un2 hok2 os2 bare2 ea ed hd1 q2⟩
    | _ => exact False.elim hqz
/-- an own exception class with one field -/
def XSite (P : Program) (w : World) (K : PySem.W.Frag) (mg : Str → Option Value) (base : Heap) (C f : String) (k : Nat) : Prop :=
  ∃ (b : XB) (fI : Addr) (fd : FuncData) (ps : List Str), OxB K (cad K C) b ∧ PySem.W.findIn K (.ref (cad K C)) "__init__" = some (some (.ref fI)) ∧ PySem.W.typeIn K (.ref fI) = some (.type "function") ∧
    FnOk P w K mg base (L2.CX P w) k fI fd ps (spX (cad K C) (Str.ofString f)) ∧ Binds K fd ps [] ∧ mg (Str.ofString C) = some (.ref (cad K C))
def sRaise (C f : String) (ca : M D) : MS := sE ca fun d ev => some (.er ⟨C, [f], [d]⟩ ev)
theorem del_upd {H : Hp} {a : Addr} {o : HO} (h : H a = none) : ∀ c, del (upd H a o) a c = H c := fun c => by
  by_cases q : c = a
  · rw [q, del_same, h]
  · rw [del_ne q, upd_ne q]
theorem ss_raise {X : Cx} {W : WX} {e : Expr} {C f : String} {k : Nat} {ca : M D} {p pos cpos : Pos} (F : XSite X.prog X.w X.K X.mg X.base C f k) (hr : Room (k + 1) X.A) (hc : X.calm = true) (tk : Takes X W) (hg : Gl X (Str.ofString C)) (ha : SE X W e ca)
    (hdb : (Str.ofString C == ("__debug__" : Str)) = false := by decide +kernel) (hea : starEach [e] X.env = (false, eval e X.env) :: starEach [] X.env := by rfl) (hpl : (backTo cpos (starEach [] X.env)).any (·.1) = false := by rfl) :
    SS X W (.Raise (some (.Call (.Name (Str.ofString C) p) [e] [] cpos)) none pos) (sRaise C f ca) := by
  obtain ⟨b, fI, fd, ps, T, iC, tI, F1, hcb, hm⟩ := F
  obtain ⟨t, pa, sa⟩ := ha
  refine ⟨_, ps_raise hc tk (make_ox T iC tI F1 hr hcb (passes_call tk fun _ _ _ _ h => h.elim) hg hm pa hdb hea hpl), fun σ ev I H En rel h => ?_⟩
  refine sa σ ev I H _ rel (h.expr.imp fun d ev1 I1 H1 s1 r1 h1 v rv => ?_)
  refine ⟨by simp, fun a ha => ⟨a, v, rfl, upd_same, fun dq hdx hne => ⟨rfl, dq, [(Str.ofString f, v)], upd_same, ?_, ?_, ?_⟩⟩⟩
  · rw [upd_ne hne, upd_same]
  · rw [upd_ne hne] at hdx
    exact hdx
  · have hd1 : H1 dq = none := by rw [upd_ne hne] at hdx; exact hdx
    -- the heap behind: the exception's dict, and nothing else
    have eq : ∀ c, (upd (del (upd (upd (upd H1 a (exo a (cad X.K C) none)) dq (exd dq [(Str.ofString f, v)])) a (exo a (cad X.K C) (some dq))) a) dq (.xd [(Str.ofString f, v)])) c = upd H1 dq (.xd [(Str.ofString f, v)]) c := fun c => by
      by_cases q : c = dq
      · rw [q, upd_same, upd_same]
      · rw [upd_ne q, upd_ne q]
        by_cases q2 : c = a
        · rw [q2, del_same, ha]
        · rw [del_ne q2, upd_ne q2, upd_ne q, upd_ne q2]
    rw [funext eq]
    have ex : Ex I1 H1 I1 (upd H1 dq (.xd [(Str.ofString f, v)])) := Ex.laid r1.sub hd1
    unfold PostS at h1
    exact h1 σ I1 _ dq ex.step (r1.ex ex) ⟨[v], by rw [upd_same]; rfl, rfl, Rs_cons.mpr ⟨v, [], rfl, rv, Rs_nil.mpr rfl⟩⟩
end FL
set_option Elab.async false
set_option linter.all false
set_option maxRecDepth 100000
namespace FL
open PySem
open PySem.Spec
open L2
def setN (i : Nat) (ev : Ev) : Option Ev := match ev[i]? with
  | some (some (.bor _)) => none
  | none => none
  | _ => some (ev.set i none)
theorem setN_some {i : Nat} {ev ev' : Ev} (h : setN i ev = some ev') : ev' = ev.set i none ∧ (∀ c, ev[i]? ≠ some (some (.bor c))) ∧ i < ev.length := by
  unfold setN at h
  split at h
  · cases h
  · cases h
  · rename_i hn hm
    cases h
    refine ⟨rfl, fun c z => hn c z, ?_⟩
    exact Nat.lt_of_not_le fun z => hm (List.getElem?_eq_none z)
theorem set_none {K : PySem.W.Frag} {σ : St} {ev ev' : Ev} {I H : Hp} {i : Nat} (r : Rel K σ ev I H) (e : setN i ev = some ev') (o : Option V) : Step σ ev I H (σ.set i o) ev' I H ∧ Rel K (σ.set i o) ev' I H := by
  obtain ⟨rfl, nb, hlt⟩ := setN_some e
  have own : ∀ (j : Nat) (s : SV), (ev.set i none)[j]? = some (some s) → i ≠ j ∧ ev[j]? = some (some s) := fun j s e => by
    rcases set_get e with ⟨_, q⟩ | q
    · cases q
    · exact q
  refine ⟨⟨fun a o h _ => h, fun _ h => h, Le.refl _, fun _ _ h _ => h, fun a w => ?_, fun a w => ?_, fun j c e => ?_⟩, ⟨by simp [r.len], r.sub, fun j s e => ?_, fun j k s t a e1 e2 c1 c2 g1 g2 => ?_⟩⟩
  · obtain ⟨j, s, e, hc, hv⟩ := w
    obtain ⟨hn, e'⟩ := own j s e
    rw [List.getElem?_set_ne hn] at hv
    exact .inl ⟨j, s, e', hc, hv⟩
  · obtain ⟨j, s, e, hc, hv⟩ := w
    obtain ⟨hn, e'⟩ := own j s e
    rw [List.getElem?_set_ne hn] at hv
    exact .inl ⟨j, s, e', hc, hv⟩
  · have hn : i ≠ j := fun z => nb c (by rw [z]; exact e)
    exact ⟨⟨c, by rw [List.getElem?_set_ne hn]; exact e⟩, List.getElem?_set_ne hn⟩
  · obtain ⟨hn, q⟩ := own j s e
    obtain ⟨w, h1, h2⟩ := r.slot j s q
    exact ⟨w, by rw [List.getElem?_set_ne hn]; exact h1, h2⟩
  · obtain ⟨n1, e1⟩ := own j s e1
    obtain ⟨n2, e2⟩ := own k t e2
    rw [List.getElem?_set_ne n1] at g1
    rw [List.getElem?_set_ne n2] at g2
    exact r.sep j k s t a e1 e2 c1 c2 g1 g2
def tSOf (K : PySem.W.Frag) (W : WX) (c : MS) : TS := fun D σ H => ∃ ev I, Rel K σ ev I H ∧ PostS K W c σ ev I H D
theorem pss_of {X : Cx} {W : WX} {st : List Stmt} {c : MS} (h : SB X W st c) : PSs X st (tSOf X.K W c) := by
  obtain ⟨t, p, s⟩ := h
  exact ⟨fun pins st σ H D I ⟨ev, J, r, q⟩ => p.run pins st σ H D I (s σ ev J H D r q)⟩
abbrev W0 : WX := fun _ _ _ _ => False
/-- in the suite of an exception e (its fields as the heap has them) -/
structure InX (K : PySem.W.Frag) (i : Nat) (a dd : Addr) (e : Err) (σ : St) (H : Hp) (I : Hp) : Prop where
  slot : σ[i]? = some (some (.ref a))
  xd : XD K I H dd e
def SXE (X : Cx) (i : Nat) (a dd : Addr) (e : Err) (x : Expr) (c : M D) : Prop := ∃ t, PE X x t ∧ ∀ (σ : St) (ev : Ev) (I H : Hp) (Q : VK), Rel X.K σ ev I H → InX X.K i a dd e σ H I → Post X.K W0 c σ ev I H (RG X.K Q) → t σ H Q
def SXA (X : Cx) (i : Nat) (a dd : Addr) (e : Err) (xs : List Expr) (c : M (List D)) : Prop := ∃ t, PA X xs t ∧ ∀ (σ : St) (ev : Ev) (I H : Hp) (Q : List V → Hp → Prop), Rel X.K σ ev I H → InX X.K i a dd e σ H I → Post X.K W0 c σ ev I H (fun ds _ I' H' => ∀ vs, Rs X.K I' ds vs → Q vs H') → t σ H Q
def SXS (X : Cx) (i : Nat) (a dd : Addr) (e : Err) (st : Stmt) (c : MS) : Prop := ∃ t, PS X st t ∧ ∀ (σ : St) (ev : Ev) (I H : Hp) (D : Ends), Rel X.K σ ev I H → InX X.K i a dd e σ H I → PostS X.K W0 c σ ev I H D → t D σ H
def SXB (X : Cx) (i : Nat) (a dd : Addr) (e : Err) (st : List Stmt) (c : MS) : Prop := ∃ t, PSs X st t ∧ ∀ (σ : St) (ev : Ev) (I H : Hp) (D : Ends), Rel X.K σ ev I H → InX X.K i a dd e σ H I → PostS X.K W0 c σ ev I H D → t D σ H
/-- the exception's dict is no one's slot -/
theorem XD.keep {K : PySem.W.Frag} {σ : St} {ev : Ev} {I H I' H' : Hp} {σ' : St} {ev' : Ev} {dd : Addr} {e : Err} (r : Rel K σ ev I H) (s : Step σ ev I H σ' ev' I' H') (h : XD K I H dd e) : XD K I' H' dd e := by
  obtain ⟨vs, h1, h2, h3⟩ := h
  refine ⟨vs, s.keep _ _ h1 ?_, h2, Rs.mono s.le _ _ h3⟩
  rintro ⟨j, t, e1, c1, v1⟩
  obtain ⟨p, c, e2, _, e4, _⟩ := r.cell e1 c1
  rw [v1] at e2
  cases e2
  cases c with
  | lst xs => obtain ⟨ws, e5, _⟩ := e4; rw [h1] at e5; cases e5
  | ins C ks fs => obtain ⟨dx, ws, e5, _⟩ := e4; rw [h1] at e5; cases e5
section
variable {X : Cx} {i : Nat} {a dd : Addr} {e : Err} {x y : Expr} {xs : List Expr} {pos : Pos}
theorem sx_e {c : M D} (h : SE X W0 x c) : SXE X i a dd e x c := by
  obtain ⟨t, p, s⟩ := h
  exact ⟨t, p, fun σ ev I H Q r _ q => s σ ev I H Q r q⟩
theorem sxa_nil : SXA X i a dd e [] mNil := by
  obtain ⟨t, p, s⟩ := (sa_nil : SA X W0 [] mNil)
  exact ⟨t, p, fun σ ev I H Q r _ q => s σ ev I H Q r q⟩
theorem InX.step {K : PySem.W.Frag} {σ : St} {ev : Ev} {I H I' H' : Hp} {ev' : Ev} (r : Rel K σ ev I H) (s : Step σ ev I H σ ev' I' H') (h : InX K i a dd e σ H I) : InX K i a dd e σ H' I' := ⟨h.slot, h.xd.keep r s⟩
theorem sxa_cons {ca : M D} {cr : M (List D)} (ha : SXE X i a dd e x ca) (hr : SXA X i a dd e xs cr) (hs : starEach (x :: xs) X.env = (false, eval x X.env) :: starEach xs X.env := by rfl) : SXA X i a dd e (x :: xs) (mCons ca cr) := by
  obtain ⟨ta, pa, sa⟩ := ha
  obtain ⟨tr, pr, sr⟩ := hr
  refine ⟨_, pa_cons pa pr hs, fun σ ev I H Q rel ix h => ?_⟩
  refine sa σ ev I H _ rel ix ((Post.bind h).imp fun d ev1 I1 H1 s1 r1 h1 vx rx => ?_)
  refine sr σ ev1 I1 H1 _ r1 (ix.step rel s1) ((Post.bind h1).imp fun ds ev2 I2 H2 s2 r2 h2 vs rs => ?_)
  exact Post.ret r2 h2 _ (Rs_cons.mpr ⟨vx, vs, rfl, R.mono s2.le _ _ rx, rs⟩)
/-- e.f: the field of the exception at hand -/
def mXf (f : String) (e : Err) : M D := M.opt (fld f e.ks e.fs)
theorem sx_fld {X0 : Cx} {oe : Obj} {cls : Value} {d : Option Addr} {pn : List (Addr × Obj)} {C f : String} {n : Str} {np : Pos} (T : XfC X0.K (cad X0.K C)) (hno : PySem.W.findIn X0.K (.ref (cad X0.K C)) (Str.ofString f) = some none) (hC : e.x = C)
    (hz : Zc cls d oe) (hf : ∃ vs, oe.data = .fields vs) (hcls : cls = .ref (cad X0.K e.x)) (hd : d = some dd) (hN : X0.N[i]? = some n) (hv : Vis X0.env.scope n) (hdb : (n == ("__debug__" : Str)) = false := by decide +kernel) (hcd : (n == ("__classdict__" : Str)) = false := by decide +kernel)
    (hb : attributeBase (.Name n np) (Str.ofString f) X0.env (eval (.Name n np) X0.env) = eval (.Name n np) X0.env := by rfl) : SXE (X0.suite a ((a, oe) :: pn)) i a dd e (.Attribute (.Name n np) (Str.ofString f) pos) (mXf f e) := by
  subst hC
  refine ⟨_, pe_xf T hno hz hf (pe_var (X := X0.suite a ((a, oe) :: pn)) hN hv hdb hcd) hb, fun σ ev I H Q rel ix h => ?_⟩
  obtain ⟨dv, e1, k⟩ := Post.opt h
  obtain ⟨vs, h1, h2, h3⟩ := ix.xd
  obtain ⟨v, l, rv⟩ := fld_ok h3 e1
  exact ⟨.ref a, ix.slot, rfl, hcls, dd, _, v, hd, h1, l, k I H (Step.refl ..) rel v rv⟩
theorem sx_tup {c : M (List D)} {kd} (h : SXA X i a dd e xs c) : SXE X i a dd e (.Tuple xs kd pos) (mTup c) := by
  obtain ⟨t, p, s⟩ := h
  refine ⟨_, pe_tup p, fun σ ev I H Q rel ix h => ?_⟩
  refine s σ ev I H _ rel ix ((Post.bind h).imp fun ds ev1 I1 H1 s1 r1 h1 vs rs => ?_)
  obtain ⟨d, e1, k⟩ := Post.opt h1
  split at e1
  · rename_i hz
    cases e1
    refine ⟨by rw [← rs.length]; exact hz, fun p hp => ?_⟩
    have ex := Ex.alloc (o := HO.tup vs) r1.sub hp
    exact k _ _ ex.step (r1.ex ex) _ (R_tup.mpr ⟨p, vs, rfl, SqT.of upd_same, Rs.mono ex.le _ _ rs⟩)
  · cases e1
theorem sx_lst {c : M (List D)} (h : SXA X i a dd e xs c) : SXE X i a dd e (.List xs pos) (mFz (mLst c)) := by
  obtain ⟨t, p, s⟩ := h
  refine ⟨_, pe_lst p, fun σ ev I H Q rel ix h => ?_⟩
  refine s σ ev I H _ rel ix ((Post.bind h.fz).imp fun ds ev1 I1 H1 s1 r1 h1 vs rs => ?_)
  obtain ⟨d, e1, k⟩ := Post.opt h1
  split at e1
  · rename_i hz
    cases e1
    refine ⟨by rw [← rs.length]; exact hz, fun p hp => ?_⟩
    have ex := Ex.laid (o := HO.lst vs) r1.sub hp
    have h0 : H p = none := Classical.byContradiction fun z => s1.there p z hp
    exact k _ _ ex.step (r1.ex ex) p h0 (r1.fresh hp).1 (r1.fresh hp).2 ⟨vs, upd_same, rs⟩
  · cases e1
theorem sxs_ret {c : M D} (h : SXE X i a dd e x c) : SXS X i a dd e (.Return (some x) pos) (sRet c) := by
  obtain ⟨t, p, s⟩ := h
  refine ⟨_, ps_ret p, fun σ ev I H En rel ix h => ?_⟩
  exact s σ ev I H _ rel ix (h.expr.imp fun d ev1 I1 H1 s1 r1 h1 v rv => h1.rt rfl σ I1 H1 v (Step.refl ..) r1 rv)
theorem sxs_set (j : Nat) {n : Str} {c : M D} {p : Pos} (hN : X.N.Nodup) (hi : X.N[j]? = some n) (hx : Loc X.env.scope n) (hf : X.fn n = true ∨ X.env.scope.names.lookup n = some .local) (h : SXE X i a dd e x c)
    (hs : swapsWithSole [.Name n p] x pos.line X.env = pure false := by rfl) (hw : swappedStores [.Name n p] x X.env = pure none := by rfl) (h1 : (assignEach [.Name n p] X.env).map (·.2) = [assign (.Name n p) X.env] := by rfl) : SXS X i a dd e (.Assign [.Name n p] x pos) (sSet j c) := by
  obtain ⟨t, pa, s⟩ := h
  refine ⟨_, ps_asg pa (pg_name hN hi hx hf) hs hw h1, fun σ ev I H En rel ix h => ?_⟩
  refine s σ ev I H _ rel ix (h.expr.imp fun d ev1 I1 H1 s1 r1 h1 v rv => ?_)
  obtain ⟨ev2, e2, k⟩ := h1.opt
  obtain ⟨s2, r2⟩ := set_data r1 e2 rv
  exact k _ _ _ s2 r2
theorem sxs_s {st : Stmt} {c : MS} (h : SS X W0 st c) : SXS X i a dd e st c := by
  obtain ⟨t, p, s⟩ := h
  exact ⟨t, p, fun σ ev I H En r _ q => s σ ev I H En r q⟩
theorem sxb_one {st : Stmt} {c : MS} (h : SXS X i a dd e st c) : SXB X i a dd e [st] c := by
  obtain ⟨t, p, s⟩ := h
  exact ⟨_, pss_one p, s⟩
end
def mapN (i : Nat) : OS → Option OS
  | .nx ev => (setN i ev).map .nx
  | .rt r ev => (setN i ev).map (.rt r)
  | .bk ev => (setN i ev).map .bk
  | .ct ev => (setN i ev).map .ct
  | .er _ _ => none
/-- xt: which class is caught by which -/
def lkX : List (String × String × Bool) → String → String → Option Bool
  | [], _, _ => none
  | r :: xt, x, C => if r.1 = x ∧ r.2.1 = C then some r.2.2 else lkX xt x C
def XtOk (K : PySem.W.Frag) (xt : List (String × String × Bool)) : Prop := ∀ r ∈ xt, PySem.W.exmOne K (.ref (cad K r.1)) (.ref (cad K r.2.1)) = some r.2.2
theorem lkX_ok {K : PySem.W.Frag} : ∀ {xt : List (String × String × Bool)} {x C : String} {b : Bool}, XtOk K xt → lkX xt x C = some b → PySem.W.exmOne K (.ref (cad K x)) (.ref (cad K C)) = some b
  | [], x, C, b, _, h => by cases h
  | r :: xt, x, C, b, T, h => by
    unfold lkX at h
    split at h
    · rename_i q
      have t := T r (List.mem_cons_self ..)
      rw [q.1, q.2] at t
      exact t.trans h
    · exact lkX_ok (fun r hr => T r (List.mem_cons_of_mem _ hr)) h
def sTryAs (xt : List (String × String × Bool)) (C : String) (i : Nat) (cb : MS) (cs : Err → MS) : MS := fun ev => match cb ev with
  | some (.er e ev') => match lkX xt e.x C with
    | some true => ((setN i ev').bind (cs e)).bind (mapN i)
    | some false => some (.er e ev')
    | none => none
  | o => o
/-- from a later point, at the slot's own place -/
theorem ss_tryAs {X : Cx} {W : WX} {xt : List (String × String × Bool)} {C : String} {i : Nat} {n : Str} {body suite : List Stmt} {b₀ : Stmt} {np pos pos' : Pos} {cb : MS} {cs : Err → MS} (T : XtOk X.K xt) (hs : X.stack = X.env :: X.outer) (hf : X.env.frame = some X.env.locals) (hN : X.N.Nodup) (hi : X.N[i]? = some n) (hln : X.env.kindOf n = some .local)
    (hc : Names X (Str.ofString C) (.ref (cad X.K C))) (tk : Takes X W)
    (hb : ∀ (W' : WX) (pn : List (Addr × Obj)) (xe : Value → Shared → Prop), Takes (X.tr pn xe) W' → PassesOwn (model X.prog X.w) X.A X.env xe → SB (X.tr pn xe) W' body cb)
    (hsu : ∀ (a dd : Addr) (oe : Obj) (cls : Value) (d : Option Addr) (pn : List (Addr × Obj)) (e : Err), Zc cls d oe → (∃ vs, oe.data = .fields vs) → cls = .ref (cad X.K e.x) → d = some dd → lkX xt e.x C = some true → SXB (X.suite a ((a, oe) :: pn)) i a dd e (b₀ :: suite) (cs e)) :
    SS X W (.Try body [.ExceptHandler (some (.Name (Str.ofString C) np)) (some n) (b₀ :: suite) pos'] [] [] pos) (sTryAs xt C i cb cs) := by
  refine ⟨_, ps_try_as (tb := fun W' => tSOf X.K W' cb) (ts := fun a cls d => fun D σ H => ∃ (ev : Ev) (I : Hp) (dd : Addr) (e : Err), cls = .ref (cad X.K e.x) ∧ d = some dd ∧ lkX xt e.x C = some true ∧ Rel X.K σ ev I H ∧ InX X.K i a dd e σ H I ∧ PostS X.K W0 (cs e) σ ev I H D)
    hs hf hN hi hln hc tk (fun W' pn xe t p => pss_of (hb W' pn xe t p)) (fun a oe cls d pn hz hv => ?_), fun σ ev I H En rel h => ?_⟩
  · refine ⟨fun pins s σ H D I h => ?_⟩
    obtain ⟨ev, J, dd, e, h1, h2, h3, h4, h5, h6⟩ := h
    obtain ⟨t, p, sim⟩ := hsu a dd oe cls d pn e hz hv h1 h2 h3
    exact p.run pins s σ H D I (sim σ ev J H D h4 h5 h6)
  · refine ⟨ev, I, rel, ?_⟩
    have h0 := h
    unfold PostS sTryAs at h
    unfold PostS
    cases q : cb ev with
    | none => rw [q] at h; exact h
    | some o =>
      rw [q] at h
      cases o with
      | nx ev' => exact h
      | bk ev' => exact h
      | ct ev' => exact h
      | rt r ev' => exact h
      | er e ev' =>
        intro σ' I' H' dd s' r' xd
        simp only at h
        cases ql : lkX xt e.x C with
        | none => rw [ql] at h; exact h.elim
        | some b =>
          refine ⟨b, lkX_ok T ql, fun hb1 a ha => ?_, fun hb0 => ?_⟩
          · subst hb1
            rw [ql] at h
            simp only at h
            cases qn : setN i ev' with
            | none => rw [qn] at h; exact h.elim
            | some ev1 =>
              rw [qn] at h
              simp only [Option.bind_some] at h
              obtain ⟨s1, r1⟩ := set_none r' qn (some (.ref a))
              have hlt : i < σ'.length := by
                rw [← r'.len]
                exact (setN_some qn).2.2
              refine ⟨ev1, I', dd, e, rfl, rfl, ql, r1, ⟨List.getElem?_set_self hlt, xd⟩, ?_⟩
              have st := s'.trans s1
              cases qs : cs e ev1 with
              | none => rw [qs] at h; exact h.elim
              | some o2 =>
                rw [qs] at h
                simp only [Option.bind_some] at h
                cases o2 with
                | er e2 ev2 => exact h.elim
                | nx ev2 =>
                  simp only [mapN] at h
                  cases q3 : setN i ev2 with
                  | none => rw [q3] at h; exact h.elim
                  | some ev3 =>
                    rw [q3] at h
                    intro σ2 I2 H2 s2 r2
                    obtain ⟨s3, r3⟩ := set_none r2 q3 none
                    exact h _ I2 H2 ((st.trans s2).trans s3) r3
                | bk ev2 =>
                  simp only [mapN] at h
                  cases q3 : setN i ev2 with
                  | none => rw [q3] at h; exact h.elim
                  | some ev3 =>
                    rw [q3] at h
                    intro σ2 I2 H2 s2 r2
                    obtain ⟨s3, r3⟩ := set_none r2 q3 none
                    exact h _ I2 H2 ((st.trans s2).trans s3) r3
                | ct ev2 =>
                  simp only [mapN] at h
                  cases q3 : setN i ev2 with
                  | none => rw [q3] at h; exact h.elim
                  | some ev3 =>
                    rw [q3] at h
                    intro σ2 I2 H2 s2 r2
                    obtain ⟨s3, r3⟩ := set_none r2 q3 none
                    exact h _ I2 H2 ((st.trans s2).trans s3) r3
                | rt rv ev2 =>
                  simp only [mapN] at h
                  cases q3 : setN i ev2 with
                  | none => rw [q3] at h; exact h.elim
                  | some ev3 =>
                    rw [q3] at h
                    intro σ2 I2 H2 v s2 r2 hv
                    obtain ⟨s3, r3⟩ := set_none r2 q3 none
                    refine h _ I2 H2 v ((st.trans s2).trans s3) r3 ?_
                    cases rv with
                    | d d => exact hv
                    | fr c =>
                      obtain ⟨p, g1, g2, g3, g4⟩ := hv
                      refine ⟨p, g1, ?_, g3, g4⟩
                      rcases g2 with g2 | g2
                      · exact .inl (Classical.byContradiction fun z => st.there p z g2)
                      · exact (st.lown p g2).symm
          · subst hb0
            rw [ql] at h
            exact h σ' I' H' dd s' r' xd
end FL
set_option Elab.async false
set_option linter.all false
set_option maxRecDepth 100000
namespace FL
open PySem
open PySem.Spec
open L2
section
variable {prog : Program} {w : World} {A : Around} {E : Value → Shared → Prop} {s : Shared} {K : PySem.W.Frag} {x C f L : Addr} {h0 : Heap} {m : Str → Option Value} {ox : Obj} {od : Option Obj} {y ty : Value}
/-- x != y where the class has __eq__ of its own and object's __ne__ -/
theorem own_ne {Q : Value → Shared → Prop} (hu : A.units + 1 < cLine) (F0 : PyProof.Rows.Fr h0 L s.heap m) (X0 : K.In h0) (I : PySem.W.InstAt s.heap x ox C od) (hb : PySem.W.Looks (model prog w) s.heap (typeOf y) ty) (hn : PySem.W.notFirst K C ty = true)
    (hN : PySem.W.findIn K (.ref C) "__ne__" = some (some (.builtin "object.__ne__"))) (hE : PySem.W.findIn K (.ref C) "__eq__" = some (some (.ref f))) (hf : PySem.W.isFn K (.ref f) = true) (hm : PySem.W.mroIn K C (.type "object") = some true)
    (h : wpAny (model prog w) A.in1 (call (.ref f) [.ref x, y]) (fun v s' => ∃ q, v = .bool q ∧ Q (.bool (!q)) s') E s) : wpAny (model prog w) A (richCompare .NotEq (.ref x) y) Q E s := by
  have X := X0.keeps F0.keep
  have iv : PySem.W.Looks (model prog w) s.heap (isInstance (.ref x) (.type "object")) true := I.type.andThen (PySem.W.looks_mroIn X hm)
  have inner : ∀ {R : Fin → Shared → Prop} {E' : Value → Shared → Prop}, wpAny (model prog w) A.in1 (call (.ref f) [.ref x, y]) (fun v s' => ∃ q, v = .bool q ∧ R (.done (.ret (.bool (!q)))) s') E' s → wpAny (model prog w) A.in1 (Builtin.«object.__ne__» ⟨[.ref x, y], []⟩) R E' s := fun {R E'} hc => by
    unfold Builtin.«object.__ne__»
    refine wpAny_bind (wpAny_of_eq (a := ((Value.ref x : Value), [y])) (by first | rfl | (simp only [slotArgs]; rfl)) ?_)
    dsimp only
    refine wpAny_bind (wpAny_cRoomFor hu (wpAny_bind (PySem.W.ifBound_K X I hE hf (wpAny_mono hc (fun v s' hv => ?_) fun _ _ z => z))))
    obtain ⟨q, rfl, hq⟩ := hv
    exact wpAny_bind (wpAny_truthy_bool (wpAny_pure hq))
  have one : wpAny (model prog w) A (tryCompare (.ref x) "__ne__" y) (fun r s' => ∃ v, r = some v ∧ Q v s') E s := by
    unfold tryCompare
    refine wpAny_bind (NtL.csib (E := E) (I.type.andThen (PySem.W.looks_findIn X hN)) (F.cmp_object.ne.bind _) (wpAny_call (codeAny_call_builtin F.cmp_object.ne.plain F.cmpEntry_ne
      (@PySem.W.check_slot (model prog w) _ _ _ "object.__ne__" "object" "__ne__" (.ref x) [y] [] _ F.cmpKind_ne F.cmpSplit_ne iv (F.cmpArgs_ne _ _) (inner (wpAny_mono h (fun v s' hv => ?_) fun _ _ z => z))))))
    obtain ⟨q, rfl, hq⟩ := hv
    exact ⟨q, rfl, wpAny_pure ⟨_, rfl, hq⟩⟩
  unfold richCompare
  simp only [oneThing_ref]
  refine wpAny_holding (wpAny_bind (wpAny_cRoomFor (Nat.lt_of_succ_lt hu) ?_))
  rw [cmpInfo_NotEq]
  dsimp only
  refine wpAny_bind (I.type.here (wpAny_bind (hb.here ?_)))
  have fin : wpAny (model prog w) A (tryCompare (.ref x) "__ne__" y) (fun r s' => ∃ v, r = some v ∧ Q v s') E s := one
  split
  · rename_i q
    have e : PySem.W.subIn K ty (.ref C) = some false := by
      rcases Bool.or_eq_true_iff.mp hn with e | e
      · rw [beq_iff_eq.mp e] at q
        simp at q
      · exact beq_iff_eq.mp e
    refine wpAny_bind ((PySem.W.looks_subIn X e).here ?_)
    simp only [Bool.false_eq_true, if_false]
    refine wpAny_bind (wpAny_mono fin (fun r s' z => ?_) fun _ _ z => z)
    obtain ⟨v, rfl, hq⟩ := z
    exact wpAny_pure hq
  · refine wpAny_bind (wpAny_pure ?_)
    simp only [Bool.false_eq_true, if_false]
    refine wpAny_bind (wpAny_mono fin (fun r s' z => ?_) fun _ _ z => z)
    obtain ⟨v, rfl, hq⟩ := z
    exact wpAny_pure hq
end
/-- classes with an own __eq__: the class, its mirror -/
structure ERow where
  C : String
  m : FM
/-- what the text says of one: its __eq__ of level k, the other side's types (none of a class below) -/
def ESite (P : Program) (w : World) (K : PySem.W.Frag) (mg : Str → Option Value) (base : Heap) (k : Nat) (nf : List TN) (r : ERow) : Prop :=
  ∃ f : Addr, Site P w K mg base f k 2 [] r.m [.inl 0, .inl 1] ∧ PySem.W.findIn K (.ref (cad K r.C)) "__eq__" = some (some (.ref f)) ∧ PySem.W.isFn K (.ref f) = true ∧
    PySem.W.findIn K (.ref (cad K r.C)) "__ne__" = some (some (.builtin "object.__ne__")) ∧ PySem.W.mroIn K (cad K r.C) (.type "object") = some true ∧ ∀ t ∈ nf, PySem.W.notFirst K (cad K r.C) (tnV K t) = true
def lkE (C : String) : List ERow → Option ERow
  | [] => none
  | r :: t => if r.C = C then some r else lkE C t
theorem lkE_mem {C : String} : ∀ {t : List ERow} {r : ERow}, lkE C t = some r → r ∈ t ∧ r.C = C
  | [], r, h => by cases h
  | x :: t, r, h => by
    unfold lkE at h
    split at h
    · rename_i q
      cases h
      exact ⟨List.mem_cons_self .., q⟩
    · exact ⟨List.mem_cons_of_mem _ (lkE_mem h).1, (lkE_mem h).2⟩
def bolR : Option FO → Option Bool
  | some (.ret (.d (.bl q)) _) => some q
  | _ => none
def insC : D → Option String
  | .ins C _ _ => some C
  | _ => none
/-- a == b, a an instance -/
def dEqO (tb : List ERow) (nf : List TN) (ins : List String) (a b : D) : Option Bool := match insC a, tyN b with
  | some C, some t => if nf.contains t && okIns ins b then (match lkE C tb with
    | some r => bolR (r.m [.d a, .d b])
    | none => none) else none
  | _, _ => none
section
variable {X : Cx} {k : Nat} {tb : List ERow} {nf : List TN} {kt : List (TN × TN × Bool)} {ins : List String}
theorem R.ex_args {K : PySem.W.Frag} {a b : D} {x y : V} {I H : Hp} (l : Le I H) (ra : R K I a x) (rb : R K I b y) : Rel K (up [x, y]) (up [SV.d a, SV.d b]) I H := by
  refine ⟨rfl, l, fun i s e => ?_, fun i j s t p e1 e2 c1 c2 g1 g2 => ?_⟩
  · obtain ⟨s', h, q⟩ := up_get.mp e
    cases q
    match i, h with
    | 0, h => cases h; exact ⟨x, rfl, ra⟩
    | 1, h => cases h; exact ⟨y, rfl, rb⟩
  · obtain ⟨s', h, q⟩ := up_get.mp e1
    cases q
    match i, h with
    | 0, h => cases h; cases c1
    | 1, h => cases h; cases c1
theorem own_call {op : CmpOp} (hk : Room (k + 1) X.A) (tk : Passes (L2.CX X.prog X.w) X (fun _ _ _ => False)) (T : KitT X.K kt ins) (S : ∀ r ∈ tb, ESite X.prog X.w X.K X.mg X.base k nf r) (neg : Bool) (hop : op = if neg then .NotEq else .Eq) :
    OpS X (compareOp op) (fun a b => (dEqO tb nf ins a b).map fun q => .bl (if neg then !q else q)) := by
  refine ⟨fun x y H Q => ∃ (I : Hp) (a b : D) (q : Bool), Le I H ∧ dEqO tb nf ins a b = some q ∧ R X.K I a x ∧ R X.K I b y ∧ ∀ I' H', Ex I H I' H' → Q (.bl (if neg then !q else q)) H', ?_, fun I H a b x y d Q l e rx ry k => ?_⟩
  · intro pins s σ H x y u v Q J ru rv hq
    obtain ⟨I, a, b, q, l, e, ra, rb, hQ⟩ := hq
    unfold dEqO at e
    split at e
    · rename_i C t e1 e2
      split at e
      · rename_i hc
        obtain ⟨c1, c2⟩ := and_tt hc
        split at e
        · rename_i r er
          obtain ⟨hm, rfl⟩ := lkE_mem er
          cases a with
          | ins C' ks fs =>
            cases e1
            obtain ⟨p, dx, vs, rfl, g1, g2, g3⟩ := R_ins.mp ra
            cases (show u = Value.ref p from ru)
            obtain ⟨f, ⟨fd, ps, pm, F, hb, hd⟩, hE, hf, hN, hmr, hnf⟩ := S r hm
            obtain ⟨mA, O, _⟩ := ins_get J.hok (l _ _ g1)
            obtain ⟨od, O2, _⟩ := O.look
            obtain ⟨m, hF⟩ := J.fr
            obtain ⟨Pz, Z, pz, _⟩ := kit_of J rv (tyN_ok T l e2 c2 rb)
            have tyb := Z.ty (model X.prog X.w) s.heap J.kIn pz
            have hnt := hnf t (by simpa using c1)
            have rr : Vals [V.ref p, y] [Value.ref p, v] := .cons rfl (.cons rv .nil)
            have hsp : spF X.K r.m [V.ref p, y] H (fun z H' => z = .bl q ∧ ∃ I', Ex I H I' H') (fun _ _ _ => False) := by
              refine ⟨[.d (.ins r.C ks fs), .d b], I, R.ex_args l ra rb, fun s hs => ?_, ?_⟩
              · simp only [List.mem_cons, List.not_mem_nil, or_false] at hs
                rcases hs with rfl | rfl <;> rfl
              · unfold bolR at e
                split at e
                · rename_i q' out em
                  cases e
                  rw [em]
                  intro z I' H' st rl hz
                  refine ⟨R_bl.mp (show R X.K I' (.bl q) z from hz), I', ⟨fun a o ha => st.keep a o ha ?_, st.le, rl.sub, fun a h1 h2 => st.new a h1 h2 ?_⟩⟩
                  · rintro ⟨i, s, e1, c1, _⟩
                    obtain ⟨s', h, q2⟩ := up_get.mp e1
                    cases q2
                    match i, h with
                    | 0, h => cases h; cases c1
                    | 1, h => cases h; cases c1
                  · rintro ⟨i, s, e1, c1, _⟩
                    obtain ⟨s', h, q2⟩ := up_get.mp e1
                    cases q2
                    match i, h with
                    | 0, h => cases h; cases c1
                    | 1, h => cases h; cases c1
                · cases e
            have har : arr V.non pm [V.ref p, y] = [V.ref p, y] := by
              cases hd with
              | cons h1 t1 =>
                rename_i b1 m1
                cases t1 with
                | cons h2 t2 =>
                  rename_i b2 m2
                  cases t2
                  cases b1 with
                  | inr => exact h1.elim
                  | inl i1 =>
                    cases b2 with
                    | inr => exact h2.elim
                    | inl i2 =>
                      have q1 : 0 = i1 := h1
                      have q2 : 1 = i2 := h2
                      subst q1 q2
                      rfl
            obtain ⟨us', b2, r2⟩ := hb s [Value.ref p, v] [] [V.ref p, y] J.kIn (by rw [List.append_nil]; exact rr) rfl rfl
            rw [har] at r2
            have run : ∀ {A : Around}, Room k A → A.frames = X.A.frames → wpAny (model X.prog X.w) A (call (.ref f) [.ref p, v]) (fun z s' => z = .bool q ∧ ∃ I' H', Ex I H I' H' ∧ Inv X pins σ H' s') X.xe s := fun {A} hr fr => by
              have e0 : Env0 X.prog X.w X.K X.mg X.base A X.stack s H := by
                have e := J.env0
                exact ⟨by rw [fr]; exact e.frames, e.mod, e.bs, e.bsz, e.funs, e.frf, e.hok, e.bare⟩
              refine wpAny_call (codeAny_mono (F.run A X.stack s H ⟨[.ref p, v], []⟩ _ _ _ _ hr e0 b2 r2 hsp) fun r s' hq => ?_)
              cases r with
              | error z => exact tk pins σ H s z s' J hq
              | ok fl =>
                cases fl with
                | ret z =>
                  obtain ⟨z', H', J', rz, ez, I', ex⟩ := J.after hq
                  subst ez
                  exact ⟨rz, I', H', ex, J'⟩
                | _ => exact False.elim hq
            cases neg with
            | true =>
              subst hop
              show wpAny (model X.prog X.w) X.A (richCompare .NotEq (.ref p) v) (EP X pins σ Q) X.xe s
              refine own_ne (by have := hk.un; omega) hF J.ok.mod.kin O2 tyb hnt hN hE hf hmr (wpAny_mono (run hk.in1 rfl) (fun z s' hz => ?_) fun _ _ z => z)
              obtain ⟨rfl, I', H', ex, J'⟩ := hz
              exact ⟨q, rfl, .bl (!q), H', J', rfl, hQ I' H' ex⟩
            | false =>
              subst hop
              show wpAny (model X.prog X.w) X.A (richCompare .Eq (.ref p) v) (EP X pins σ Q) X.xe s
              refine PySem.W.cmp_K (op := .Eq) hk.units0 hF J.ok.mod.kin O2 tyb hnt hE hf (wpAny_mono (run (hk.mono (Nat.le_succ _)) rfl) (fun z s' hz => ?_) fun _ _ z => z)
              obtain ⟨rfl, I', H', ex, J'⟩ := hz
              exact ⟨.bl q, H', J', rfl, hQ I' H' ex⟩
          | _ => cases e1
        · cases e
      · cases e
    · cases e
  · obtain ⟨q, e1, rfl⟩ := Option.map_eq_some_iff.mp e
    exact ⟨I, a, b, q, l, e1, rx, ry, fun I' H' ex => k I' H' _ ex (R_bl.mpr rfl)⟩
/-- == of data and of instances -/
def dEqG (tb : List ERow) (nf : List TN) (ins : List String) : D → D → Option D := dOr dEq fun a b => (dEqO tb nf ins a b).map .bl
def dNeG (tb : List ERow) (nf : List TN) (ins : List String) : D → D → Option D := dOr dNe fun a b => (dEqO tb nf ins a b).map fun q => .bl (!q)
theorem os_eqG (hu : X.A.units + 64 < cLine) (hk : Room (k + 1) X.A) (tk : Passes (L2.CX X.prog X.w) X (fun _ _ _ => False)) (T : KitT X.K kt ins) (S : ∀ r ∈ tb, ESite X.prog X.w X.K X.mg X.base k nf r) : OpS X (compareOp .Eq) (dEqG tb nf ins) :=
  OpS.or (os_eq hu) (own_call hk tk T S false rfl)
theorem os_neG (hu : X.A.units + 64 < cLine) (hk : Room (k + 1) X.A) (tk : Passes (L2.CX X.prog X.w) X (fun _ _ _ => False)) (T : KitT X.K kt ins) (S : ∀ r ∈ tb, ESite X.prog X.w X.K X.mg X.base k nf r) : OpS X (compareOp .NotEq) (dNeG tb nf ins) :=
  OpS.or (os_ne hu) (own_call hk tk T S true rfl)
end
end FL
set_option Elab.async false
set_option linter.all false
set_option maxRecDepth 100000
namespace FL
open PySem
open PySem.Spec
open L2
/-- a class's body -/
def clsB : Stmt → List Stmt
  | .ClassDef _ _ _ b _ _ _ _ _ _ _ => b
  | _ => []
def inB (s : Stmt) (i : Nat) : Stmt := (clsB s).getD i (.Pass ⟨0, 0, 0, 0⟩)
def ids {α : Type} (n : Nat) : List (Arg α) := (List.range n).map .inl
theorem arr_ids {α : Type} {z : α} {l : List α} {n : Nat} (h : l.length = n) : arr z (ids n) l = l := by
  unfold arr ids
  rw [List.map_map]
  apply List.ext_getElem?
  intro i
  rw [List.getElem?_map]
  by_cases hi : i < n
  · have hl : i < l.length := by omega
    rw [List.getElem?_range hi, List.getElem?_eq_getElem hl]
    show some (l.getD i z) = _
    rw [List.getD_eq_getElem?_getD, List.getElem?_eq_getElem hl]
    rfl
  · rw [List.getElem?_eq_none (by omega : l.length ≤ i), List.getElem?_eq_none (by rw [List.length_range]; omega)]
    rfl
theorem ids_rel {α β : Type} {F : α → β → Prop} : ∀ l : List Nat, Paired (SumR F) (l.map .inl) (l.map .inl)
  | [] => .nil
  | i :: l => .cons (show i = i from rfl) (ids_rel l)
section
variable {P : Program} {w : World} {K : PySem.W.Frag} {mg : Str → Option Value} {base : Heap} {k n : Nat} {qual : Str} {params : Arguments} {body : List Stmt} {scope : Scope} {fd : FuncData} {x : Str} {ps : List Str} {m : FM} {f : Addr} {dvs : List V} {kws : List (Str × V)}
/-- a def's core: what lies there, what it promises -/
def Core (P : Program) (w : World) (K : PySem.W.Frag) (mg : Str → Option Value) (base : Heap) (f : Addr) (x qual : Str) (params : Arguments) (body : List Stmt) (scope : Scope) (dvs : List V) (kws : List (Str × V)) (k : Nat) (ps : List Str) (m : FM) : Prop :=
  ∃ fd, FunD K x qual params body scope dvs kws f fd ∧ FnOk P w K mg base (L2.CX P w) k f fd ps (spF K m)
theorem core_mk {N : List Str} {c : MS} (F : FunD K x qual params body scope dvs kws f fd) (S : FnScope N ps scope)
    (hb : ∀ (cdv : Value) (A : Around) (outer : List Env) (s : Shared) (H : Hp) (E : XK), Room k (A.deeper (PyProof.Rows.envOfC qual scope s.heap.objs.size f cdv)) → SB (cxOf (L2.CX P w) P w K mg base N qual scope f cdv A outer s H E) (wDef E) body c) :
    Core P w K mg base f x qual params body scope dvs kws (k + 1) ps (mkF ps.length N.length c) := ⟨fd, F, fn_ok F S hb⟩
theorem core_zero (F : FunD K x qual params body scope dvs kws f fd) : Core P w K mg base f x qual params body scope dvs kws k ps (fun _ => none) :=
  ⟨fd, F, ⟨fun vs H Q E h => by obtain ⟨_, _, _, _, h⟩ := h; exact h.elim, fun A outer s H args us vs Q E hr he hb hv h => by obtain ⟨_, _, _, _, h⟩ := h; exact h.elim⟩⟩
/-- every parameter is written -/
theorem site_all (C : Core P w K mg base f x qual params body scope [] [] k ps m) (hn : n = ps.length)
    (hbn : ∀ (kV doc pm : Value) (an : Option Addr) (cdv ct : Value) (us : List Value), us.length = ps.length → bindArgs (PySem.W.fnOf x qual params body scope .none kV doc pm an cdv ct) ⟨us, []⟩ = pure (ps.zip us)) : Site P w K mg base f k n [] m (ids n) := by
  obtain ⟨fd, F, G⟩ := C
  refine ⟨fd, ps, ids n, G, Bd.of_binds (F.bindsN hbn) .nil (by rw [List.length_nil, hn, Nat.add_zero]) fun vs l => ?_, ids_rel _⟩
  rw [List.append_nil, arr_ids l]
/-- a function's site, of every length, with the address -/
def Fsite (P : Program) (w : World) (K : PySem.W.Frag) (mg : Str → Option Value) (base : Heap) (x : String) (k n : Nat) (ks : List Str) (m : FM) (dpm : List (Arg D)) : Prop :=
  ∃ f : Addr, Site P w K mg base f k n ks m dpm ∧ mg (Str.ofString x) = some (.ref f) ∧ PySem.W.keepIn K (.ref f) = true
theorem fsite_mk {x : String} {dpm : List (Arg D)} {ks : List Str} (C : Core P w K mg base f (Str.ofString x) qual params body scope dvs kws k ps m) (S : Site P w K mg base f k n ks m dpm) (hm : mg (Str.ofString x) = some (.ref f)) : Fsite P w K mg base x k n ks m dpm := by
  obtain ⟨fd, F, _⟩ := C
  exact ⟨f, S, hm, F.kp⟩
theorem Fsite.mono {x : String} {dpm : List (Arg D)} {ks : List Str} {j : Nat} (h : Fsite P w K mg base x j n ks m dpm) (hk : j ≤ k) : Fsite P w K mg base x k n ks m dpm := by
  obtain ⟨f, S, h1, h2⟩ := h
  exact ⟨f, S.mono hk, h1, h2⟩
theorem MSite.mono {name : String} {ks : List Str} {r : MRow} {j : Nat} (h : MSite P w K mg base name j n ks r) (hk : j ≤ k) : MSite P w K mg base name k n ks r := by
  obtain ⟨f, c, hm, S⟩ := h
  exact ⟨f, c, hm, S.mono hk⟩
theorem CSite.mono {C : String} {ks : List Str} {dpm : List (Arg D)} {j : Nat} (h : CSite P w K mg base C j n ks m dpm) (hk : j ≤ k) : CSite P w K mg base C k n ks m dpm := by
  obtain ⟨f, M, S⟩ := h
  exact ⟨f, M, S.mono hk⟩
theorem ESite.mono {nf : List TN} {r : ERow} {j : Nat} (h : ESite P w K mg base j nf r) (hk : j ≤ k) : ESite P w K mg base k nf r := by
  obtain ⟨f, S, h⟩ := h
  exact ⟨f, S.mono hk, h⟩
theorem XSite.mono {C g : String} {j : Nat} (h : XSite P w K mg base C g j) (hk : j ≤ k) : XSite P w K mg base C g k := by
  obtain ⟨b, fI, fd, ps, h1, h2, h3, F, h4⟩ := h
  exact ⟨b, fI, fd, ps, h1, h2, h3, F.mono hk, h4⟩
theorem one_row {r0 : MRow} {p : MRow → Prop} (h : p r0) : ∀ r ∈ [r0], p r := fun r hr => by
  rw [List.mem_singleton.mp hr]
  exact h
theorem one_er {r0 : ERow} {p : ERow → Prop} (h : p r0) : ∀ r ∈ [r0], p r := fun r hr => by
  rw [List.mem_singleton.mp hr]
  exact h
end
section
variable {X : Cx} {W : WX} {pos p : Pos} {k n : Nat} {ks : List Str} {m : FM} {dpm : List (Arg D)} {x : String} {es : List Expr} {kws : List Keyword} {ca : M (List AR)}
theorem se_fsite (F : Fsite X.prog X.w X.K X.mg X.base x k n ks m dpm) (hr : Room k X.A) (tk : Takes X W) (hg : Gl X (Str.ofString x)) (ha : SC X W pos es kws n ks ca) (hdb : (Str.ofString x == ("__debug__" : Str)) = false := by decide +kernel) :
    SE X W (.Call (.Name (Str.ofString x) p) es kws pos) (ca.bind fun ars => callS (fun r => some (rvD r)) m dpm (n + ks.length) ars) := by
  obtain ⟨f, S, hm, hk⟩ := F
  exact se_site S hm hk hr tk hg ha hdb
theorem sef_fsite (F : Fsite X.prog X.w X.K X.mg X.base x k n ks m dpm) (hr : Room k X.A) (tk : Takes X W) (hg : Gl X (Str.ofString x)) (ha : SC X W pos es kws n ks ca) (hdb : (Str.ofString x == ("__debug__" : Str)) = false := by decide +kernel) :
    SEF X W (.Call (.Name (Str.ofString x) p) es kws pos) (ca.bind fun ars => callS frC m dpm (n + ks.length) ars) := by
  obtain ⟨f, S, hm, hk⟩ := F
  exact sef_site S hm hk hr tk hg ha hdb
end
def oxF (C : String) (b : XB) (K : PySem.W.Frag) : Bool := PySem.W.excInitIn K (cad K C) b.mro b.new && (PySem.W.excOver K (cad K C) b.mro && (PySem.W.hasDictIn K (cad K C) && (He.eqO (PySem.W.findIn K (.ref (cad K C)) "__setattr__") (some (some (.builtin "object.__setattr__"))) &&
  (decide (PySem.W.subIn K (.ref (cad K C)) (.type "BaseException") = some true) && (decide (PySem.W.typeIn K (.ref (cad K C)) = some (.type "type")) && PySem.W.keepIn K (.ref (cad K C)))))))
def viF (b : XB) (K : PySem.W.Frag) : Bool := match PySem.W.findCls K (.type b.nm) (.type "type") "__init__" with
  | some (.val (.builtin n)) => decide (n = b.ini)
  | _ => false
def eqF (C : String) (nf : List TN) (K : PySem.W.Frag) : Bool := He.eqO (PySem.W.findIn K (.ref (cad K C)) "__ne__") (some (some (.builtin "object.__ne__"))) && (decide (PySem.W.mroIn K (cad K C) (.type "object") = some true) && nf.all fun t => PySem.W.notFirst K (cad K C) (tnV K t))
def ccF (C f : String) (d : D) (K : PySem.W.Frag) : Bool := PySem.W.readsIn K (cad K C) (.type "type") && (He.eqO (PySem.W.specialIn K (.ref (cad K C)) "__getattribute__") (some (some (.builtin "type.__getattribute__"))) &&
  (match PySem.W.findCls K (.ref (cad K C)) (.type "type") (Str.ofString f) with
    | some (.val u) => relDK K d u
    | _ => false))
section
variable {K : PySem.W.Frag} {C f : String} {b : XB} {nf : List TN} {d : D}
theorem oxF_ok (h : (Fx.raw (oxF C b)).ok K = true) : OxB K (cad K C) b := by
  obtain ⟨h1, h⟩ := and_tt (show oxF C b K = true from h)
  obtain ⟨h2, h⟩ := and_tt h
  obtain ⟨h3, h⟩ := and_tt h
  obtain ⟨h4, h⟩ := and_tt h
  obtain ⟨h5, h⟩ := and_tt h
  obtain ⟨h6, h7⟩ := and_tt h
  exact ⟨h1, h2, h3, He.eqO_ok h4, of_decide_eq_true h5, of_decide_eq_true h6, h7⟩
theorem viF_ok (h : (Fx.raw (viF b)).ok K = true) : PySem.W.findCls K (.type b.nm) (.type "type") "__init__" = some (.val (.builtin b.ini)) := by
  have h' : viF b K = true := h
  unfold viF at h'
  split at h'
  · rename_i n e
    rw [e, of_decide_eq_true h']
  · cases h'
theorem xfF_ok (h : (Fx.raw (fun K => xfB K (cad K C))).ok K = true) : XfC K (cad K C) := xfB_ok h
theorem eqF_ok (h : (Fx.raw (eqF C nf)).ok K = true) : PySem.W.findIn K (.ref (cad K C)) "__ne__" = some (some (.builtin "object.__ne__")) ∧ PySem.W.mroIn K (cad K C) (.type "object") = some true ∧ ∀ t ∈ nf, PySem.W.notFirst K (cad K C) (tnV K t) = true := by
  obtain ⟨h1, h⟩ := and_tt (show eqF C nf K = true from h)
  obtain ⟨h2, h3⟩ := and_tt h
  exact ⟨He.eqO_ok h1, of_decide_eq_true h2, fun t ht => List.all_eq_true.mp h3 t ht⟩
theorem ccF_ok (h : (Fx.raw (ccF C f d)).ok K = true) : ClX.CRead K (cad K C) (.type "type") ∧ ∃ u v, ClX.CVal K (cad K C) (.type "type") (Str.ofString f) v u ∧ R K (fun _ => none) d v := by
  obtain ⟨h1, h⟩ := and_tt (show ccF C f d K = true from h)
  obtain ⟨h2, h3⟩ := and_tt h
  refine ⟨⟨h1, He.eqO_ok h2⟩, ?_⟩
  split at h3
  · rename_i u e
    obtain ⟨v, r1, r2⟩ := relDK_ok (I := fun _ => none) d u h3
    exact ⟨u, v, ⟨e, r1⟩, r2⟩
  · cases h3
end
/-- C.f, a constant of a class, by the class -/
def mCls (C : String) (d : D) (ca : M D) : M D := ca.bind fun x => M.opt (match x with
  | .cls C' => if C' = C then some d else none
  | _ => none)
theorem se_ccon {X : Cx} {W : WX} {e : Expr} {pos : Pos} {C f : String} {d : D} {ca : M D} (h : (Fx.raw (ccF C f d)).ok X.K = true) (ha : SE X W e ca) (hb : attributeBase e (Str.ofString f) X.env (eval e X.env) = eval e X.env := by rfl) : SE X W (.Attribute e (Str.ofString f) pos) (mCls C d ca) := by
  obtain ⟨r, u, v, k, rv⟩ := ccF_ok h
  obtain ⟨ta, pa, sa⟩ := ha
  refine ⟨_, ClX.pe_cval pa hb, fun σ ev I H Q rel h => ?_⟩
  refine sa σ ev I H _ rel ((Post.bind h).imp fun x ev1 I1 H1 s1 r1 h1 vx rx => ?_)
  obtain ⟨d', e1, q⟩ := Post.opt h1
  cases x with
  | cls C' =>
    simp only at e1
    split at e1
    · rename_i hC
      cases e1
      subst hC
      exact ⟨_, _, v, u, R_cls.mp rx, r, k, q I1 H1 (Step.refl ..) r1 v (R.mono (fun _ _ z => by cases z) _ _ rv)⟩
    · cases e1
  | _ => cases e1
/-- an own exception class's site, by its __init__ -/
theorem xsite_mk {P : Program} {w : World} {K : PySem.W.Frag} {mg : Str → Option Value} {base : Heap} {qual : Str} {params : Arguments} {body : List Stmt} {scope : Scope} {C f : String} {fI : Addr} {fd : FuncData} {b : XB} {ps : List Str}
    (F : FunD K "__init__" qual params body scope [] [] fI fd) (T : OxB K (cad K C) b) (hm : Meth K (cad K C) "__init__" fI) (G : FnOk P w K mg base (L2.CX P w) 1 fI fd ps (spX (cad K C) (Str.ofString f))) (hg : mg (Str.ofString C) = some (.ref (cad K C)))
    (hbn : ∀ (kV doc pm : Value) (an : Option Addr) (cdv ct : Value) (us : List Value), us.length = ps.length → bindArgs (PySem.W.fnOf "__init__" qual params body scope .none kV doc pm an cdv ct) ⟨us, []⟩ = pure (ps.zip us)) : XSite P w K mg base C f 1 :=
  ⟨b, fI, fd, ps, T, hm.at_, beq_iff_eq.mp hm.fn, G, F.bindsN hbn, hg⟩
end FL
set_option Elab.async false
set_option linter.all false
set_option maxRecDepth 100000
namespace FL
open PySem
open PySem.Spec
open L2
/-- a scope with marks -/
def mkScM (l : List (String × Nat)) (m : List (String × String)) : Scope := { kind := .function, names := l.map fun p => (Str.ofString p.1, kindNo p.2), isGenerator := false, isCoroutine := false, more := m.map fun p => (Str.ofString p.1, .str (Str.ofString p.2)) }
theorem all_nil {α : Type} {p : α → Prop} : ∀ r ∈ ([] : List α), p r := fun r hr => by cases hr
theorem all_cons {α : Type} {p : α → Prop} {x : α} {l : List α} (h : p x) (t : ∀ r ∈ l, p r) : ∀ r ∈ x :: l, p r := fun r hr => by
  rcases List.mem_cons.mp hr with e | e
  · rw [e]
    exact h
  · exact t r e
theorem at_nil {K : PySem.W.Frag} {f : String} : AtT K f [] := ⟨all_nil, all_nil⟩
theorem at_cons {K : PySem.W.Frag} {f C : String} {cs : List String} (h : Cls K (cad K C)) (n : NoAttr K (cad K C) (Str.ofString f)) (t : AtT K f cs) : AtT K f (C :: cs) := ⟨all_cons h t.cl, all_cons n t.no⟩
theorem lkX_eq : ∀ {xt : List (String × String × Bool)} {x C : String}, (xt.all fun r => !r.2.2 || r.1 == r.2.1) = true → lkX xt x C = some true → x = C
  | [], x, C, _, h => by cases h
  | r :: xt, x, C, a, h => by
    unfold lkX at h
    rw [List.all_cons] at a
    obtain ⟨a1, a2⟩ := and_tt a
    split at h
    · rename_i q
      rw [Option.some.inj h] at a1
      rw [← q.1, ← q.2]
      exact eq_of_beq (by simpa using a1)
    · exact lkX_eq a2 h
theorem names_own {X : Cx} {C : String} (hg : Gl X (Str.ofString C)) (hm : X.mg (Str.ofString C) = some (.ref (cad X.K C))) (hd : (Str.ofString C == ("__debug__" : Str)) = false := by decide +kernel) : Names X (Str.ofString C) (.ref (cad X.K C)) := ⟨hg, hd, .inl hm⟩
theorem no_x {X : Cx} {W : WX} (tk : Takes X W) : Passes (L2.CX X.prog X.w) X (fun _ _ _ => False) := passes_call tk fun _ _ _ _ h => h.elim
theorem dfn_core {P : Program} {w : World} {K : PySem.W.Frag} {mg : Str → Option Value} {base : Heap} {k : Nat} {qual : Str} {params : Arguments} {body : List Stmt} {scope : Scope} {x : String} {ps : List Str} {m : FM} {f : Addr} (C : Core P w K mg base f (Str.ofString x) qual params body scope [] [] k ps m) (hm : mg (Str.ofString x) = some (.ref f))
    (hbn : ∀ (kV doc pm : Value) (an : Option Addr) (cdv ct : Value) (us : List Value), us.length = ps.length → bindArgs (PySem.W.fnOf (Str.ofString x) qual params body scope .none kV doc pm an cdv ct) ⟨us, []⟩ = pure (ps.zip us)) : Dfn P w K mg base x k m [] := by
  obtain ⟨fd, F, G⟩ := C
  exact ⟨f, fd, ps, [], [], G, hm, F.kp, F.bindsN hbn, .nil, Rs_nil.mpr rfl⟩
end FL
set_option Elab.async false
set_option linter.all false
set_option maxRecDepth 100000
namespace FL
open PySem
open PySem.Spec
open L2
theorem law_sp {K : PySem.W.Frag} {m : FM} {H : Hp} {a : Addr} {ns : List Int} {out : List SV} {E : XK} (hS : SqL K H a (ns.map V.int)) (e : m [.d (.lst (ns.map D.int))] = some (.ret (.d (.bl true)) out)) : spF K m [.ref a] H (fun v _ => v = .bl true) E := by
  refine ⟨[.d (.lst (ns.map D.int))], H, ⟨rfl, Le.refl _, fun i s h => ?_, fun i j s t p e1 e2 c1 c2 g1 g2 => ?_⟩, fun s hs => ?_, ?_⟩
  · obtain ⟨s', h', q⟩ := up_get.mp h
    cases q
    match i, h' with
    | 0, h' => cases h'; exact ⟨.ref a, rfl, R_lst.mpr ⟨a, _, rfl, hS, Rs.ints ns⟩⟩
  · obtain ⟨s', h', q⟩ := up_get.mp e1
    cases q
    match i, h' with
    | 0, h' => cases h'; cases c1
  · rw [List.mem_singleton.mp hs]
    rfl
  · rw [e]
    intro v I' H' st rl hv
    exact R_bl.mp (show R K I' (.bl true) v from hv)
/-- the law's def, as walk_ofE asks it -/
theorem law_end {P : Program} {w : World} {K : PySem.W.Frag} {h : Heap} {mg : Str → Option Value} {m : FM} {k : Nat} {qual : Str} {params : Arguments} {body : List Stmt} {scope : Scope} {fa : Addr} {x y : Str} (KX : K.In h) (hfa : mg x = some (.ref fa)) (hg : mg x = some (.ref (He.ga K x)))
    (C : ∀ base : Heap, Core P w K mg base (He.ga K x) x qual params body scope [] [] k [y] m)
    (hbn : ∀ (kV doc pm : Value) (an : Option Addr) (cdv ct : Value) (us : List Value), us.length = 1 → bindArgs (PySem.W.fnOf x qual params body scope .none kV doc pm an cdv ct) ⟨us, []⟩ = pure ([y].zip us))
    (hm : ∀ ns : List Int, ns.length ≤ 63 → ∃ out, m [.d (.lst (ns.map D.int))] = some (.ret (.d (.bl true)) out)) :
    ∃ (K : PySem.W.Frag) (fd : FuncData) (sp : Sp), K.In h ∧ (∀ (s : Shared) (u : Value), BindsTo s fd ⟨[u], []⟩ [(y, u)]) ∧
      (∀ (H : Hp) (a : Addr) (ns : List Int), ns.length ≤ 63 → Only H → SqL K H a (ns.map V.int) → sp [.ref a] H (fun v _ => v = .bl true) fun _ _ _ => False) ∧
      ∀ base : Heap, K.In base → base.Ns mainGlobals mg → FnOk P w K mg base (L2.CX P w) k fa fd [y] sp := by
  have e : fa = He.ga K x := by
    rw [hg] at hfa
    cases hfa
    rfl
  subst e
  obtain ⟨fd, F, _⟩ := C h
  refine ⟨K, fd, spF K m, KX, fun s u => F.bindsA (ps := [y]) hbn s [u] rfl, fun H a ns hl _ hS => ?_, fun base _ _ => ?_⟩
  · obtain ⟨out, e⟩ := hm ns hl
    exact law_sp hS e
  · obtain ⟨fd2, F2, G2⟩ := C base
    have ef : fd2 = fd := by
      obtain ⟨oc, od, dV, kV, doc, pm, an, cdv, ct, osl, e1, l1, _⟩ := F.ex
      obtain ⟨oc', od', dV', kV', doc', pm', an', cdv', ct', osl', e2, l2, _⟩ := F2.ex
      rw [l1] at l2
      have z := Option.some.inj l2
      injection z with z1 z2 z3 z4
      injection z3 with z5
      exact z5.symm
    rw [← ef]
    exact G2
/-- the way in: what is let out may lean on the world -/
theorem walk_in {l : PySem.W.OpenLaw} {k : Nat} {q : Program} {loose : List Str} {XP : (Str → Option Value) → Heap → Prop} {YP : World → Heap → Prop} {d : DefRec} {y : Str} (hn : l.most = some 63) (hdf : d.params.defaults = []) (hr : Room k callerA)
    (F : ∀ (w : World) (mg : Str → Option Value) (fa : Addr) (h : Heap), YP w h → h.Ns mainGlobals mg → mg d.name = some (.ref fa) →
      ∃ (K : PySem.W.Frag) (fd : FuncData) (sp : Sp), K.In h ∧ (∀ (s : Shared) (u : Value), BindsTo s fd ⟨[u], []⟩ [(y, u)]) ∧ (∀ (H : Hp) (a : Addr) (ns : List Int), ns.length ≤ 63 → Only H → SqL K H a (ns.map V.int) → sp [.ref a] H (fun v _ => v = .bl true) fun _ _ _ => False) ∧
        ∀ base : Heap, K.In base → base.Ns mainGlobals mg → FnOk l.prog w K mg base (L2.CX l.prog w) k fa fd [y] sp) : PySem.W.WalkO q loose XP YP l.row.toRowW d [] (fun f vs => PySem.call f vs) := by
  refine Att.attach_call hn hdf fun w s0 s1 mg mb fa o pm cd doc a vs ns G Y ho hd hcd hmg hobj hints hlen hg => ?_
  obtain ⟨K, fd, sp, KX, hb, hsp, hF⟩ := F w mg fa _ Y G.T.g hmg
  refine law_call KX G.T.g G.T.b G.T.builtins G.T.nolimit hg hobj hints (Nat.le_trans hlen (by decide)) hr hF hb (fun H hO hS => hsp H a ns hlen hO hS) fun H e s' hx => ?_
  obtain ⟨_, _, _, _, _, _, _, _, _, _, _, _, z⟩ := hx
  exact z
theorem cx_end {P : Program} {w : World} (H : Hp) (s : Shared) (e : Value) (s' : Shared) (h : L2.CX P w [] H s (fun _ _ _ => False) e s') : False := by
  obtain ⟨_, _, _, _, _, _, _, _, _, _, _, _, z⟩ := h
  exact z
end FL
set_option Elab.async false
set_option linter.all false
set_option maxRecDepth 100000
namespace FL
open PySem
open PySem.Spec
open L2
theorem compL_map {vs : List Nat} {gs : D → Ev → Option Ev} {ct : M Bool} {ce : M D} {ev : Ev} {h : D → D} : ∀ {xs acc : List D}, (∀ x ∈ xs, inner vs (gs x) (turnC ct ce) ev = some (.ok (some (h x)) ev)) → acc.length + xs.length ≤ sizeLine → compL vs gs ct ce xs acc ev = some (.ok (acc ++ xs.map h) ev)
  | [], acc, _, _ => by
    simp [compL, M.ret]
  | x :: xs, acc, hx, hl => by
    have h1 := hx x (List.mem_cons_self ..)
    have h2 : acc.length < sizeLine := by
      simp only [List.length_cons] at hl
      omega
    have ih := compL_map (xs := xs) (acc := acc ++ [h x]) (h := h) (fun y hy => hx y (List.mem_cons_of_mem _ hy)) (by simp only [List.length_append, List.length_cons, List.length_nil] at hl ⊢; omega)
    simp only [compL, M.bind, h1, h2, if_true]
    rw [ih]
    simp
theorem dIx_lst {xs : List D} {k : Nat} {x : D} (h : xs[k]? = some x) : dIx (.lst xs) (.int ((k : Nat) : Int)) = some x := by
  have hk : k < xs.length := (List.getElem?_eq_some_iff.mp h).1
  show L2.atI xs (k : Int) = some x
  unfold L2.atI L2.ixN
  have h0 : (0 : Int) ≤ (k : Int) := Int.natCast_nonneg k
  have h1 : (k : Int) < ((xs.length : Nat) : Int) := by exact_mod_cast hk
  rw [if_pos h0, if_pos h1]
  simpa using h
theorem dIx_tup {xs : List D} {k : Nat} {x : D} (h : xs[k]? = some x) : dIx (.tup xs) (.int ((k : Nat) : Int)) = some x := by
  have := dIx_lst h
  exact this
/-- a for over items, each turn of which goes on -/
theorem forL_inv {gs : D → Ev → Option Ev} {cb : MS} {J : Nat → Ev → Prop} : ∀ {xs : List D} {i : Nat} {ev : Ev}, J i ev → (∀ (k : Nat) (x : D) (ev : Ev), xs[k]? = some x → J (i + k) ev → ∃ ev1 ev2, gs x ev = some ev1 ∧ (cb ev1 = some (.nx ev2) ∨ cb ev1 = some (.ct ev2)) ∧ J (i + k + 1) ev2) →
    ∃ ev', forL gs cb xs ev = some (.nx ev') ∧ J (i + xs.length) ev'
  | [], i, ev, h, _ => ⟨ev, by simp [forL], h⟩
  | x :: xs, i, ev, h, t => by
    obtain ⟨ev1, ev2, h1, h2, h3⟩ := t 0 x ev rfl h
    obtain ⟨ev', e, j⟩ := forL_inv (xs := xs) (i := i + 1) (ev := ev2) h3 fun k y ev hy hj => by
      have := t (k + 1) y ev (by simpa using hy) (by rw [show i + (k + 1) = i + 1 + k by omega]; exact hj)
      rw [show i + 1 + k + 1 = i + (k + 1) + 1 by omega]
      exact this
    refine ⟨ev', ?_, by rw [List.length_cons, show i + (xs.length + 1) = i + 1 + xs.length by omega]; exact j⟩
    simp only [forL, h1]
    rcases h2 with h2 | h2 <;> simp only [h2] <;> exact e
end FL
set_option Elab.async false
set_option linter.all false
set_option maxRecDepth 100000
set_option maxHeartbeats 4000000
namespace Q
open PySem
open PySem.Spec
open L2
open FL
def top (i : Nat) : Stmt := PySem.Challenge.pw_spanloops_k87_days_made.main.body.getD i (.Pass ⟨0, 0, 0, 0⟩)
def kt : List (TN × TN × Bool) := [((.b "NoneType"), (.b "int"), false), ((.b "NoneType"), (.b "bool"), false), ((.b "NoneType"), (.b "str"), false), ((.b "NoneType"), (.b "tuple"), false), ((.b "NoneType"), (.b "list"), false), ((.b "bool"), (.b "int"), true), ((.b "bool"), (.b "bool"), true), ((.b "bool"), (.b "str"), false), ((.b "bool"), (.b "tuple"), false), ((.b "bool"), (.b "list"), false), ((.b "int"), (.b "int"), true), ((.b "int"), (.b "bool"), false), ((.b "int"), (.b "str"), false), ((.b "int"), (.b "tuple"), false), ((.b "int"), (.b "list"), false), ((.b "str"), (.b "int"), false), ((.b "str"), (.b "bool"), false), ((.b "str"), (.b "str"), true), ((.b "str"), (.b "tuple"), false), ((.b "str"), (.b "list"), false), ((.b "tuple"), (.b "int"), false), ((.b "tuple"), (.b "bool"), false), ((.b "tuple"), (.b "str"), false), ((.b "tuple"), (.b "tuple"), true), ((.b "tuple"), (.b "list"), false), ((.b "list"), (.b "int"), false), ((.b "list"), (.b "bool"), false), ((.b "list"), (.b "str"), false), ((.b "list"), (.b "tuple"), false), ((.b "list"), (.b "list"), true), ((.b "NoneType"), (.o "Days"), false), ((.b "bool"), (.o "Days"), false), ((.b "int"), (.o "Days"), false), ((.b "str"), (.o "Days"), false), ((.b "tuple"), (.o "Days"), false), ((.b "list"), (.o "Days"), false), ((.o "Days"), (.o "Days"), true)]
def ins : List String := ["Days"]
def nf : List TN := [(.b "int"), (.b "tuple"), (.o "Days")]
def xt : List (String × String × Bool) := [("BadDay", "BadDay", true), ("BadMoment", "BadDay", false), ("TooFar", "BadDay", false), ("BadDay", "BadMoment", false), ("BadMoment", "BadMoment", true), ("TooFar", "BadMoment", false), ("BadDay", "TooFar", false), ("BadMoment", "TooFar", false), ("TooFar", "TooFar", true)]
theorem xt_flat : (xt.all fun r => !r.2.2 || r.1 == r.2.1) = true := by decide +kernel
abbrev s_BadMoment___init : Stmt := (inB (top 2) 0)
def sc_BadMoment___init : Scope := mkSc [("self", 0), ("moment", 0), ("ValueError", 3)]
def N_BadMoment___init : List Str := [(Str.ofString "self"), (Str.ofString "moment")]
def P_BadMoment___init : List Str := [(Str.ofString "self"), (Str.ofString "moment")]
def df_BadMoment___init : He.DefD := ⟨((Str.ofString "BadMoment"), some (Str.ofString "__init__")), (Str.ofString "__init__"), (Str.ofString "BadMoment.__init__"), defArgs s_BadMoment___init, defBody s_BadMoment___init, sc_BadMoment___init, [], []⟩
theorem nd_BadMoment___init : N_BadMoment___init.Nodup := by decide +kernel
theorem so_BadMoment___init : FnScope N_BadMoment___init P_BadMoment___init sc_BadMoment___init := ⟨rfl, rfl, rfl, nd_BadMoment___init, rfl, by decide +kernel, by decide +kernel⟩
theorem v_BadMoment___init_0_self : Vis sc_BadMoment___init (Str.ofString "self") := Or.inl (by decide +kernel)
theorem v_BadMoment___init_0_moment : Vis sc_BadMoment___init (Str.ofString "moment") := Or.inl (by decide +kernel)
theorem g_BadMoment___init_0_ValueError : sc_BadMoment___init.names.lookup (Str.ofString "ValueError") = some .globalImplicit := by decide +kernel
abbrev s_BadDay___init : Stmt := (inB (top 3) 0)
def sc_BadDay___init : Scope := mkSc [("self", 0), ("day", 0), ("ValueError", 3)]
def N_BadDay___init : List Str := [(Str.ofString "self"), (Str.ofString "day")]
def P_BadDay___init : List Str := [(Str.ofString "self"), (Str.ofString "day")]
def df_BadDay___init : He.DefD := ⟨((Str.ofString "BadDay"), some (Str.ofString "__init__")), (Str.ofString "__init__"), (Str.ofString "BadDay.__init__"), defArgs s_BadDay___init, defBody s_BadDay___init, sc_BadDay___init, [], []⟩
theorem nd_BadDay___init : N_BadDay___init.Nodup := by decide +kernel
theorem so_BadDay___init : FnScope N_BadDay___init P_BadDay___init sc_BadDay___init := ⟨rfl, rfl, rfl, nd_BadDay___init, rfl, by decide +kernel, by decide +kernel⟩
theorem v_BadDay___init_0_self : Vis sc_BadDay___init (Str.ofString "self") := Or.inl (by decide +kernel)
theorem v_BadDay___init_0_day : Vis sc_BadDay___init (Str.ofString "day") := Or.inl (by decide +kernel)
theorem g_BadDay___init_0_ValueError : sc_BadDay___init.names.lookup (Str.ofString "ValueError") = some .globalImplicit := by decide +kernel
abbrev s_TooFar___init : Stmt := (inB (top 4) 0)
def sc_TooFar___init : Scope := mkSc [("self", 0), ("edge", 0), ("OverflowError", 3)]
def N_TooFar___init : List Str := [(Str.ofString "self"), (Str.ofString "edge")]
def P_TooFar___init : List Str := [(Str.ofString "self"), (Str.ofString "edge")]
def df_TooFar___init : He.DefD := ⟨((Str.ofString "TooFar"), some (Str.ofString "__init__")), (Str.ofString "__init__"), (Str.ofString "TooFar.__init__"), defArgs s_TooFar___init, defBody s_TooFar___init, sc_TooFar___init, [], []⟩
theorem nd_TooFar___init : N_TooFar___init.Nodup := by decide +kernel
theorem so_TooFar___init : FnScope N_TooFar___init P_TooFar___init sc_TooFar___init := ⟨rfl, rfl, rfl, nd_TooFar___init, rfl, by decide +kernel, by decide +kernel⟩
theorem v_TooFar___init_0_self : Vis sc_TooFar___init (Str.ofString "self") := Or.inl (by decide +kernel)
theorem v_TooFar___init_0_edge : Vis sc_TooFar___init (Str.ofString "edge") := Or.inl (by decide +kernel)
theorem g_TooFar___init_0_OverflowError : sc_TooFar___init.names.lookup (Str.ofString "OverflowError") = some .globalImplicit := by decide +kernel
abbrev s_is_integer : Stmt := (top 9)
def sc_is_integer : Scope := mkSc [("thing", 0), ("isinstance", 3), ("int", 3), ("bool", 3)]
def N_is_integer : List Str := [(Str.ofString "thing")]
def P_is_integer : List Str := [(Str.ofString "thing")]
def df_is_integer : He.DefD := ⟨((Str.ofString "is_integer"), none), (Str.ofString "is_integer"), (Str.ofString "is_integer"), defArgs s_is_integer, defBody s_is_integer, sc_is_integer, [], []⟩
theorem nd_is_integer : N_is_integer.Nodup := by decide +kernel
theorem so_is_integer : FnScope N_is_integer P_is_integer sc_is_integer := ⟨rfl, rfl, rfl, nd_is_integer, rfl, by decide +kernel, by decide +kernel⟩
theorem g_is_integer_0_int : sc_is_integer.names.lookup (Str.ofString "int") = some .globalImplicit := by decide +kernel
theorem n_is_integer_thing : N_is_integer[0]? = some (Str.ofString "thing") := rfl
theorem v_is_integer_0_thing : Vis sc_is_integer (Str.ofString "thing") := Or.inl (by decide +kernel)
theorem g_is_integer_0_isinstance : sc_is_integer.names.lookup (Str.ofString "isinstance") = some .globalImplicit := by decide +kernel
theorem g_is_integer_0_bool : sc_is_integer.names.lookup (Str.ofString "bool") = some .globalImplicit := by decide +kernel
def b_is_integer : MS := (sRet (mAnd (mB (gIsi kt ins) (mCons (mVar 0) (mCons (M.ret (.ty "int")) mNil))) (mNot (mB (gIsi kt ins) (mCons (mVar 0) (mCons (M.ret (.ty "bool")) mNil))))))
def m_is_integer : FM := mkF 1 1 b_is_integer
abbrev s_is_near : Stmt := (top 10)
def sc_is_near : Scope := mkSc [("number", 0), ("MOST", 3)]
def N_is_near : List Str := [(Str.ofString "number")]
def P_is_near : List Str := [(Str.ofString "number")]
def df_is_near : He.DefD := ⟨((Str.ofString "is_near"), none), (Str.ofString "is_near"), (Str.ofString "is_near"), defArgs s_is_near, defBody s_is_near, sc_is_near, [], []⟩
theorem nd_is_near : N_is_near.Nodup := by decide +kernel
theorem so_is_near : FnScope N_is_near P_is_near sc_is_near := ⟨rfl, rfl, rfl, nd_is_near, rfl, by decide +kernel, by decide +kernel⟩
theorem g_is_near_0_MOST : sc_is_near.names.lookup (Str.ofString "MOST") = some .globalImplicit := by decide +kernel
theorem n_is_near_number : N_is_near[0]? = some (Str.ofString "number") := rfl
theorem v_is_near_0_number : Vis sc_is_near (Str.ofString "number") := Or.inl (by decide +kernel)
def b_is_near : MS := (sRet (mChain dLe dLe (m1 dNeg (M.ret (.int 1000000000000000000000000000000))) (mVar 0) (M.ret (.int 1000000000000000000000000000000))))
def m_is_near : FM := mkF 1 1 b_is_near
abbrev s_is_moment : Stmt := (top 11)
def sc_is_moment : Scope := mkSc [("thing", 0), ("is_integer", 3), ("FIRST", 3), ("LAST", 3)]
def N_is_moment : List Str := [(Str.ofString "thing")]
def P_is_moment : List Str := [(Str.ofString "thing")]
def df_is_moment : He.DefD := ⟨((Str.ofString "is_moment"), none), (Str.ofString "is_moment"), (Str.ofString "is_moment"), defArgs s_is_moment, defBody s_is_moment, sc_is_moment, [], []⟩
theorem nd_is_moment : N_is_moment.Nodup := by decide +kernel
theorem so_is_moment : FnScope N_is_moment P_is_moment sc_is_moment := ⟨rfl, rfl, rfl, nd_is_moment, rfl, by decide +kernel, by decide +kernel⟩
theorem n_is_moment_thing : N_is_moment[0]? = some (Str.ofString "thing") := rfl
theorem v_is_moment_0_thing : Vis sc_is_moment (Str.ofString "thing") := Or.inl (by decide +kernel)
theorem g_is_moment_0_is_integer : sc_is_moment.names.lookup (Str.ofString "is_integer") = some .globalImplicit := by decide +kernel
theorem g_is_moment_0_FIRST : sc_is_moment.names.lookup (Str.ofString "FIRST") = some .globalImplicit := by decide +kernel
theorem g_is_moment_0_LAST : sc_is_moment.names.lookup (Str.ofString "LAST") = some .globalImplicit := by decide +kernel
def b_is_moment : MS := (sRet (mAnd (mCall m_is_integer [] (rVar 0 rNil)) (mChain dLt dLt (M.ret (.int (-10000000000000000000000000000000))) (mVar 0) (M.ret (.int 10000000000000000000000000000000)))))
def m_is_moment : FM := mkF 1 1 b_is_moment
abbrev s_checked_edge : Stmt := (top 14)
def sc_checked_edge : Scope := mkSc [("edge", 0), ("is_near", 3), ("TooFar", 3)]
def N_checked_edge : List Str := [(Str.ofString "edge")]
def P_checked_edge : List Str := [(Str.ofString "edge")]
def df_checked_edge : He.DefD := ⟨((Str.ofString "checked_edge"), none), (Str.ofString "checked_edge"), (Str.ofString "checked_edge"), defArgs s_checked_edge, defBody s_checked_edge, sc_checked_edge, [], []⟩
theorem nd_checked_edge : N_checked_edge.Nodup := by decide +kernel
theorem so_checked_edge : FnScope N_checked_edge P_checked_edge sc_checked_edge := ⟨rfl, rfl, rfl, nd_checked_edge, rfl, by decide +kernel, by decide +kernel⟩
theorem n_checked_edge_edge : N_checked_edge[0]? = some (Str.ofString "edge") := rfl
theorem v_checked_edge_0_edge : Vis sc_checked_edge (Str.ofString "edge") := Or.inl (by decide +kernel)
theorem g_checked_edge_0_is_near : sc_checked_edge.names.lookup (Str.ofString "is_near") = some .globalImplicit := by decide +kernel
theorem g_checked_edge_0_TooFar : sc_checked_edge.names.lookup (Str.ofString "TooFar") = some .globalImplicit := by decide +kernel
def b_checked_edge : MS := (sSeq (sIf (mTNot (mTru (mCall m_is_near [] (rVar 0 rNil)))) (sRaise "TooFar" "edge" (mVar 0)) (fun ev => some (.nx ev))) (sRetV 0))
def m_checked_edge : FM := mkF 1 1 b_checked_edge
abbrev s_Days___init : Stmt := (inB (top 15) 1)
def sc_Days___init : Scope := mkSc [("self", 0), ("length", 0), ("offset", 0), ("is_integer", 3), ("LONGEST", 3), ("BadDay", 3)]
def N_Days___init : List Str := [(Str.ofString "self"), (Str.ofString "length"), (Str.ofString "offset")]
def P_Days___init : List Str := [(Str.ofString "self"), (Str.ofString "length"), (Str.ofString "offset")]
def df_Days___init : He.DefD := ⟨((Str.ofString "Days"), some (Str.ofString "__init__")), (Str.ofString "__init__"), (Str.ofString "Days.__init__"), defArgs s_Days___init, defBody s_Days___init, sc_Days___init, [(.int 1440)], [((Str.ofString "offset"), (.int 0))]⟩
theorem nd_Days___init : N_Days___init.Nodup := by decide +kernel
theorem so_Days___init : FnScope N_Days___init P_Days___init sc_Days___init := ⟨rfl, rfl, rfl, nd_Days___init, rfl, by decide +kernel, by decide +kernel⟩
theorem n_Days___init_length : N_Days___init[1]? = some (Str.ofString "length") := rfl
theorem v_Days___init_0_length : Vis sc_Days___init (Str.ofString "length") := Or.inl (by decide +kernel)
theorem g_Days___init_0_is_integer : sc_Days___init.names.lookup (Str.ofString "is_integer") = some .globalImplicit := by decide +kernel
theorem g_Days___init_0_LONGEST : sc_Days___init.names.lookup (Str.ofString "LONGEST") = some .globalImplicit := by decide +kernel
theorem g_Days___init_0_BadDay : sc_Days___init.names.lookup (Str.ofString "BadDay") = some .globalImplicit := by decide +kernel
theorem n_Days___init_offset : N_Days___init[2]? = some (Str.ofString "offset") := rfl
theorem v_Days___init_0_offset : Vis sc_Days___init (Str.ofString "offset") := Or.inl (by decide +kernel)
theorem n_Days___init_self : N_Days___init[0]? = some (Str.ofString "self") := rfl
theorem v_Days___init_0_self : Vis sc_Days___init (Str.ofString "self") := Or.inl (by decide +kernel)
def b_Days___init : MS := (sSeq (sIf (mTOr (mTNot (mTru (mCall m_is_integer [] (rVar 1 rNil)))) (mTNot (mT (mChain dLe dLe (M.ret (.int 1)) (mVar 1) (M.ret (.int 1000000)))))) (sRaise "BadDay" "day" (mVar 1)) (fun ev => some (.nx ev))) (sSeq (sIf (mTOr (mTNot (mTru (mCall m_is_integer [] (rVar 2 rNil)))) (mTNot (mT (mChain dLe dLt (M.ret (.int 0)) (mVar 2) (mVar 1))))) (sRaise "BadDay" "day" (mVar 2)) (fun ev => some (.nx ev))) (sSeq (sPut 0 "length" ["Days"] (mVar 1)) (sPut 0 "offset" ["Days"] (mVar 2)))))
def m_Days___init : FM := mkF 3 3 b_Days___init
abbrev s_Days___eq : Stmt := (inB (top 15) 2)
def sc_Days___eq : Scope := mkSc [("self", 0), ("other", 0), ("isinstance", 3), ("Days", 3)]
def N_Days___eq : List Str := [(Str.ofString "self"), (Str.ofString "other")]
def P_Days___eq : List Str := [(Str.ofString "self"), (Str.ofString "other")]
def df_Days___eq : He.DefD := ⟨((Str.ofString "Days"), some (Str.ofString "__eq__")), (Str.ofString "__eq__"), (Str.ofString "Days.__eq__"), defArgs s_Days___eq, defBody s_Days___eq, sc_Days___eq, [], []⟩
theorem nd_Days___eq : N_Days___eq.Nodup := by decide +kernel
theorem so_Days___eq : FnScope N_Days___eq P_Days___eq sc_Days___eq := ⟨rfl, rfl, rfl, nd_Days___eq, rfl, by decide +kernel, by decide +kernel⟩
theorem g_Days___eq_0_Days : sc_Days___eq.names.lookup (Str.ofString "Days") = some .globalImplicit := by decide +kernel
theorem n_Days___eq_other : N_Days___eq[1]? = some (Str.ofString "other") := rfl
theorem v_Days___eq_0_other : Vis sc_Days___eq (Str.ofString "other") := Or.inl (by decide +kernel)
theorem g_Days___eq_0_isinstance : sc_Days___eq.names.lookup (Str.ofString "isinstance") = some .globalImplicit := by decide +kernel
theorem n_Days___eq_self : N_Days___eq[0]? = some (Str.ofString "self") := rfl
theorem v_Days___eq_0_self : Vis sc_Days___eq (Str.ofString "self") := Or.inl (by decide +kernel)
def b_Days___eq : MS := (sRet (mAnd (mB (gIsi kt ins) (mCons (mVar 1) (mCons (M.ret (.cls "Days")) mNil))) (mAnd (m2 dEq (mFld "length" ["Days"] (mArV 0)) (mFld "length" ["Days"] (mArV 1))) (m2 dEq (mFld "offset" ["Days"] (mArV 0)) (mFld "offset" ["Days"] (mArV 1))))))
def m_Days___eq : FM := mkF 2 2 b_Days___eq
abbrev s_Days_number : Stmt := (inB (top 15) 3)
def sc_Days_number : Scope := mkSc [("self", 0), ("moment", 0), ("is_moment", 3), ("BadMoment", 3)]
def N_Days_number : List Str := [(Str.ofString "self"), (Str.ofString "moment")]
def P_Days_number : List Str := [(Str.ofString "self"), (Str.ofString "moment")]
def df_Days_number : He.DefD := ⟨((Str.ofString "Days"), some (Str.ofString "number")), (Str.ofString "number"), (Str.ofString "Days.number"), defArgs s_Days_number, defBody s_Days_number, sc_Days_number, [], []⟩
theorem nd_Days_number : N_Days_number.Nodup := by decide +kernel
theorem so_Days_number : FnScope N_Days_number P_Days_number sc_Days_number := ⟨rfl, rfl, rfl, nd_Days_number, rfl, by decide +kernel, by decide +kernel⟩
theorem n_Days_number_moment : N_Days_number[1]? = some (Str.ofString "moment") := rfl
theorem v_Days_number_0_moment : Vis sc_Days_number (Str.ofString "moment") := Or.inl (by decide +kernel)
theorem g_Days_number_0_is_moment : sc_Days_number.names.lookup (Str.ofString "is_moment") = some .globalImplicit := by decide +kernel
theorem g_Days_number_0_BadMoment : sc_Days_number.names.lookup (Str.ofString "BadMoment") = some .globalImplicit := by decide +kernel
theorem n_Days_number_self : N_Days_number[0]? = some (Str.ofString "self") := rfl
theorem v_Days_number_0_self : Vis sc_Days_number (Str.ofString "self") := Or.inl (by decide +kernel)
def b_Days_number : MS := (sSeq (sIf (mTNot (mTru (mCall m_is_moment [] (rVar 1 rNil)))) (sRaise "BadMoment" "moment" (mVar 1)) (fun ev => some (.nx ev))) (sRet (m2 dFdiv (m2 dSub (mVar 1) (mFld "offset" ["Days"] (mArV 0))) (mFld "length" ["Days"] (mArV 0)))))
def m_Days_number : FM := mkF 2 2 b_Days_number
abbrev s_Days_position : Stmt := (inB (top 15) 4)
def sc_Days_position : Scope := mkSc [("self", 0), ("moment", 0), ("number", 0)]
def N_Days_position : List Str := [(Str.ofString "self"), (Str.ofString "moment"), (Str.ofString "number")]
def P_Days_position : List Str := [(Str.ofString "self"), (Str.ofString "moment")]
def df_Days_position : He.DefD := ⟨((Str.ofString "Days"), some (Str.ofString "position")), (Str.ofString "position"), (Str.ofString "Days.position"), defArgs s_Days_position, defBody s_Days_position, sc_Days_position, [], []⟩
theorem nd_Days_position : N_Days_position.Nodup := by decide +kernel
theorem so_Days_position : FnScope N_Days_position P_Days_position sc_Days_position := ⟨rfl, rfl, rfl, nd_Days_position, rfl, by decide +kernel, by decide +kernel⟩
theorem n_Days_position_self : N_Days_position[0]? = some (Str.ofString "self") := rfl
theorem v_Days_position_0_self : Vis sc_Days_position (Str.ofString "self") := Or.inl (by decide +kernel)
theorem n_Days_position_moment : N_Days_position[1]? = some (Str.ofString "moment") := rfl
theorem v_Days_position_0_moment : Vis sc_Days_position (Str.ofString "moment") := Or.inl (by decide +kernel)
theorem n_Days_position_number : N_Days_position[2]? = some (Str.ofString "number") := rfl
theorem l_Days_position_0_number : Loc sc_Days_position (Str.ofString "number") := Or.inl (by decide +kernel)
theorem v_Days_position_0_number : Vis sc_Days_position (Str.ofString "number") := Or.inl (by decide +kernel)
def b_Days_position : MS := (sSeq (sSet 2 (mMeth (fun r => some (rvD r)) "number" [⟨"Days", m_Days_number, (ids 2)⟩] (1 + 0) (mArV 0) (rVar 1 rNil))) (sRet (m2 dSub (m2 dSub (mVar 1) (mFld "offset" ["Days"] (mArV 0))) (m2 dMulI (mVar 2) (mFld "length" ["Days"] (mArV 0))))))
def m_Days_position : FM := mkF 2 3 b_Days_position
abbrev s_Days_bounds : Stmt := (inB (top 15) 5)
def sc_Days_bounds : Scope := mkSc [("self", 0), ("number", 0), ("begin", 0), ("checked_edge", 3)]
def N_Days_bounds : List Str := [(Str.ofString "self"), (Str.ofString "number"), (Str.ofString "begin")]
def P_Days_bounds : List Str := [(Str.ofString "self"), (Str.ofString "number")]
def df_Days_bounds : He.DefD := ⟨((Str.ofString "Days"), some (Str.ofString "bounds")), (Str.ofString "bounds"), (Str.ofString "Days.bounds"), defArgs s_Days_bounds, defBody s_Days_bounds, sc_Days_bounds, [], []⟩
theorem nd_Days_bounds : N_Days_bounds.Nodup := by decide +kernel
theorem so_Days_bounds : FnScope N_Days_bounds P_Days_bounds sc_Days_bounds := ⟨rfl, rfl, rfl, nd_Days_bounds, rfl, by decide +kernel, by decide +kernel⟩
theorem n_Days_bounds_self : N_Days_bounds[0]? = some (Str.ofString "self") := rfl
theorem v_Days_bounds_0_self : Vis sc_Days_bounds (Str.ofString "self") := Or.inl (by decide +kernel)
theorem n_Days_bounds_number : N_Days_bounds[1]? = some (Str.ofString "number") := rfl
theorem v_Days_bounds_0_number : Vis sc_Days_bounds (Str.ofString "number") := Or.inl (by decide +kernel)
theorem n_Days_bounds_begin : N_Days_bounds[2]? = some (Str.ofString "begin") := rfl
theorem l_Days_bounds_0_begin : Loc sc_Days_bounds (Str.ofString "begin") := Or.inl (by decide +kernel)
theorem v_Days_bounds_0_begin : Vis sc_Days_bounds (Str.ofString "begin") := Or.inl (by decide +kernel)
theorem g_Days_bounds_0_checked_edge : sc_Days_bounds.names.lookup (Str.ofString "checked_edge") = some .globalImplicit := by decide +kernel
def b_Days_bounds : MS := (sSeq (sSet 2 (m2 dAdd (mFld "offset" ["Days"] (mArV 0)) (m2 dMulI (mVar 1) (mFld "length" ["Days"] (mArV 0))))) (sRet (mTup (mCons (mCall m_checked_edge [] (rVar 2 rNil)) (mCons (mCall m_checked_edge [] (rCons (m2 dAdd (mVar 2) (mFld "length" ["Days"] (mArV 0))) rNil)) mNil)))))
def m_Days_bounds : FM := mkF 2 3 b_Days_bounds
abbrev s_law_bag : Stmt := (top 17)
def sc_law_bag : Scope := mkSc [("script", 0), ("at", 0), ("cell", 0), ("digits", 0), ("len", 3), ("abs", 3), ("int", 3)]
def N_law_bag : List Str := [(Str.ofString "script"), (Str.ofString "at"), (Str.ofString "cell"), (Str.ofString "digits")]
def P_law_bag : List Str := [(Str.ofString "script"), (Str.ofString "at")]
def df_law_bag : He.DefD := ⟨((Str.ofString "_law_bag"), none), (Str.ofString "_law_bag"), (Str.ofString "_law_bag"), defArgs s_law_bag, defBody s_law_bag, sc_law_bag, [], []⟩
theorem nd_law_bag : N_law_bag.Nodup := by decide +kernel
theorem so_law_bag : FnScope N_law_bag P_law_bag sc_law_bag := ⟨rfl, rfl, rfl, nd_law_bag, rfl, by decide +kernel, by decide +kernel⟩
theorem n_law_bag_at : N_law_bag[1]? = some (Str.ofString "at") := rfl
theorem v_law_bag_0_at : Vis sc_law_bag (Str.ofString "at") := Or.inl (by decide +kernel)
theorem g_law_bag_0_len : sc_law_bag.names.lookup (Str.ofString "len") = some .globalImplicit := by decide +kernel
theorem n_law_bag_script : N_law_bag[0]? = some (Str.ofString "script") := rfl
theorem v_law_bag_0_script : Vis sc_law_bag (Str.ofString "script") := Or.inl (by decide +kernel)
theorem n_law_bag_cell : N_law_bag[2]? = some (Str.ofString "cell") := rfl
theorem l_law_bag_0_cell : Loc sc_law_bag (Str.ofString "cell") := Or.inl (by decide +kernel)
theorem v_law_bag_0_cell : Vis sc_law_bag (Str.ofString "cell") := Or.inl (by decide +kernel)
theorem g_law_bag_0_abs : sc_law_bag.names.lookup (Str.ofString "abs") = some .globalImplicit := by decide +kernel
theorem n_law_bag_digits : N_law_bag[3]? = some (Str.ofString "digits") := rfl
theorem l_law_bag_0_digits : Loc sc_law_bag (Str.ofString "digits") := Or.inl (by decide +kernel)
theorem g_law_bag_0_int : sc_law_bag.names.lookup (Str.ofString "int") = some .globalImplicit := by decide +kernel
theorem v_law_bag_0_digits : Vis sc_law_bag (Str.ofString "digits") := Or.inl (by decide +kernel)
def b_law_bag : MS := (sSeq (sSet 2 (mIf (mT (m2 dLt (mVar 1) (mBN gLen 0))) (mIxN 0 (mVar 1)) (M.ret (.int 0)))) (sSeq (sSet 3 (mIf (mT (m2 dGe (mB gAbs (mCons (mVar 2) mNil)) (m2 dPow (M.ret (.int 10)) (M.ret (.int 18))))) (mB gAbs (mCons (mVar 2) mNil)) (M.ret (.int 0)))) (sRetF (mLst (mCons (mVar 3) (mCons (m2 dAdd (m2 dAdd (m2 dMulI (m2 dMod (mB gInt1 (mCons (mVar 2) mNil)) (M.ret (.int 2305843009213693951))) (M.ret (.int 5))) (m2 dMulI (M.ret (.int 104729)) (mVar 1))) (M.ret (.int 6151))) (mCons (M.ret (.int 0)) mNil)))))))
def m_law_bag : FM := mkF 2 4 b_law_bag
abbrev s_law_take : Stmt := (top 18)
def sc_law_take : Scope := mkSc [("bag", 0), ("many", 0), ("digit", 0), ("mixed", 0), ("int", 3)]
def N_law_take : List Str := [(Str.ofString "bag"), (Str.ofString "many"), (Str.ofString "digit"), (Str.ofString "mixed")]
def P_law_take : List Str := [(Str.ofString "bag"), (Str.ofString "many")]
def df_law_take : He.DefD := ⟨((Str.ofString "_law_take"), none), (Str.ofString "_law_take"), (Str.ofString "_law_take"), defArgs s_law_take, defBody s_law_take, sc_law_take, [], []⟩
theorem nd_law_take : N_law_take.Nodup := by decide +kernel
theorem so_law_take : FnScope N_law_take P_law_take sc_law_take := ⟨rfl, rfl, rfl, nd_law_take, rfl, by decide +kernel, by decide +kernel⟩
theorem n_law_take_bag : N_law_take[0]? = some (Str.ofString "bag") := rfl
theorem v_law_take_0_bag : Vis sc_law_take (Str.ofString "bag") := Or.inl (by decide +kernel)
theorem g_law_take_0_int : sc_law_take.names.lookup (Str.ofString "int") = some .globalImplicit := by decide +kernel
theorem n_law_take_many : N_law_take[1]? = some (Str.ofString "many") := rfl
theorem v_law_take_0_many : Vis sc_law_take (Str.ofString "many") := Or.inl (by decide +kernel)
theorem n_law_take_digit : N_law_take[2]? = some (Str.ofString "digit") := rfl
theorem l_law_take_0_digit : Loc sc_law_take (Str.ofString "digit") := Or.inl (by decide +kernel)
theorem v_law_take_0_digit : Vis sc_law_take (Str.ofString "digit") := Or.inl (by decide +kernel)
theorem n_law_take_mixed : N_law_take[3]? = some (Str.ofString "mixed") := rfl
theorem l_law_take_0_mixed : Loc sc_law_take (Str.ofString "mixed") := Or.inl (by decide +kernel)
theorem v_law_take_0_mixed : Vis sc_law_take (Str.ofString "mixed") := Or.inl (by decide +kernel)
def b_law_take : MS := (sSeq (sIf (mT (m2 dGt (mIxN 0 (M.ret (.int 0))) (M.ret (.int 0)))) (sSeq (sSet 2 (m2 dMod (mB gInt1 (mCons (mIxN 0 (M.ret (.int 0))) mNil)) (mVar 1))) (sSeq (sSetAt 0 (m2 dFdiv (mIxN 0 (M.ret (.int 0))) (mVar 1)) (M.ret (.int 0))) (sRetV 2))) (fun ev => some (.nx ev))) (sSeq (sSetAt 0 (m2 dAdd (mIxN 0 (M.ret (.int 2))) (M.ret (.int 1))) (M.ret (.int 2))) (sSeq (sSet 3 (m2 dMod (mB gInt1 (mCons (m2 dPow (m2 dAdd (mIxN 0 (M.ret (.int 1))) (m2 dMulI (M.ret (.int 999983)) (mIxN 0 (M.ret (.int 2))))) (M.ret (.int 3))) mNil)) (M.ret (.int 2305843009213693921)))) (sSeq (sSet 3 (m2 dMod (mB gInt1 (mCons (m2 dPow (m2 dAdd (mVar 3) (m2 dMulI (M.ret (.int 49979687)) (mIxN 0 (M.ret (.int 2))))) (M.ret (.int 2))) mNil)) (M.ret (.int 2305843009213693951)))) (sRet (m2 dMod (mB gInt1 (mCons (m2 dFdiv (mVar 3) (M.ret (.int 1024))) mNil)) (mVar 1)))))))
def m_law_take : FM := mkF 2 4 b_law_take
abbrev s_law_of : Stmt := (top 19)
def sc_law_of : Scope := mkSc [("bag", 0), ("some", 0), ("_law_take", 3), ("len", 3)]
def N_law_of : List Str := [(Str.ofString "bag"), (Str.ofString "some")]
def P_law_of : List Str := [(Str.ofString "bag"), (Str.ofString "some")]
def df_law_of : He.DefD := ⟨((Str.ofString "_law_of"), none), (Str.ofString "_law_of"), (Str.ofString "_law_of"), defArgs s_law_of, defBody s_law_of, sc_law_of, [], []⟩
theorem nd_law_of : N_law_of.Nodup := by decide +kernel
theorem so_law_of : FnScope N_law_of P_law_of sc_law_of := ⟨rfl, rfl, rfl, nd_law_of, rfl, by decide +kernel, by decide +kernel⟩
theorem g_law_of_0_len : sc_law_of.names.lookup (Str.ofString "len") = some .globalImplicit := by decide +kernel
theorem n_law_of_some : N_law_of[1]? = some (Str.ofString "some") := rfl
theorem v_law_of_0_some : Vis sc_law_of (Str.ofString "some") := Or.inl (by decide +kernel)
theorem n_law_of_bag : N_law_of[0]? = some (Str.ofString "bag") := rfl
theorem v_law_of_0_bag : Vis sc_law_of (Str.ofString "bag") := Or.inl (by decide +kernel)
theorem g_law_of_0_law_take : sc_law_of.names.lookup (Str.ofString "_law_take") = some .globalImplicit := by decide +kernel
def b_law_of : MS := (sRet (mIxN 1 (mCall m_law_take [] (rVar 0 (rCons (mBN gLen 1) rNil)))))
def m_law_of : FM := mkF 2 2 b_law_of
abbrev s_law_number : Stmt := (top 20)
def sc_law_number : Scope := mkSc [("bag", 0), ("road", 0), ("sign", 0), ("_law_take", 3)]
def N_law_number : List Str := [(Str.ofString "bag"), (Str.ofString "road"), (Str.ofString "sign")]
def P_law_number : List Str := [(Str.ofString "bag")]
def df_law_number : He.DefD := ⟨((Str.ofString "_law_number"), none), (Str.ofString "_law_number"), (Str.ofString "_law_number"), defArgs s_law_number, defBody s_law_number, sc_law_number, [], []⟩
theorem nd_law_number : N_law_number.Nodup := by decide +kernel
theorem so_law_number : FnScope N_law_number P_law_number sc_law_number := ⟨rfl, rfl, rfl, nd_law_number, rfl, by decide +kernel, by decide +kernel⟩
theorem n_law_number_bag : N_law_number[0]? = some (Str.ofString "bag") := rfl
theorem v_law_number_0_bag : Vis sc_law_number (Str.ofString "bag") := Or.inl (by decide +kernel)
theorem g_law_number_0_law_take : sc_law_number.names.lookup (Str.ofString "_law_take") = some .globalImplicit := by decide +kernel
theorem n_law_number_road : N_law_number[1]? = some (Str.ofString "road") := rfl
theorem l_law_number_0_road : Loc sc_law_number (Str.ofString "road") := Or.inl (by decide +kernel)
theorem v_law_number_0_road : Vis sc_law_number (Str.ofString "road") := Or.inl (by decide +kernel)
theorem n_law_number_sign : N_law_number[2]? = some (Str.ofString "sign") := rfl
theorem l_law_number_0_sign : Loc sc_law_number (Str.ofString "sign") := Or.inl (by decide +kernel)
theorem v_law_number_0_sign : Vis sc_law_number (Str.ofString "sign") := Or.inl (by decide +kernel)
def b_law_number : MS := (sSeq (sSet 1 (mCall m_law_take [] (rVar 0 (rCons (M.ret (.int 4)) rNil)))) (sSeq (sIf (mT (m2 dLt (mVar 1) (M.ret (.int 2)))) (sRet (m2 dSub (mCall m_law_take [] (rVar 0 (rCons (M.ret (.int 9)) rNil))) (m2 dMulI (M.ret (.int 3)) (mVar 1)))) (fun ev => some (.nx ev))) (sSeq (sSet 2 (m2 dSub (M.ret (.int 1)) (m2 dMulI (M.ret (.int 2)) (mCall m_law_take [] (rVar 0 (rCons (M.ret (.int 2)) rNil)))))) (sSeq (sIf (mT (m2 dEq (mVar 1) (M.ret (.int 2)))) (sRet (m2 dMulI (mVar 2) (m2 dSub (m2 dPow (M.ret (.int 10)) (M.ret (.int 30))) (mCall m_law_take [] (rVar 0 (rCons (M.ret (.int 3)) rNil)))))) (fun ev => some (.nx ev))) (sRet (m2 dMulI (mVar 2) (m2 dAdd (m2 dMulI (mCall m_law_take [] (rVar 0 (rCons (m2 dPow (M.ret (.int 10)) (M.ret (.int 15))) rNil))) (m2 dPow (M.ret (.int 10)) (M.ret (.int 15)))) (mCall m_law_take [] (rVar 0 (rCons (m2 dPow (M.ret (.int 10)) (M.ret (.int 15))) rNil))))))))))
def m_law_number : FM := mkF 1 3 b_law_number
abbrev s_law_is_strict : Stmt := (top 21)
def sc_law_is_strict : Scope := mkScM [("told", 1), ("due", 1), ("isinstance", 3), ("tuple", 3), ("list", 3), ("len", 3), ("all", 3), ("range", 3), ("str", 3), ("int", 3), ("bool", 3)] [("fast", "told"), ("fast", "due"), ("fast", "k")]
def sc_law_is_strict_1 : Scope := mkSc [(".0", 0), ("k", 0), ("_law_is_strict", 3), ("due", 1), ("told", 1)]
def sc_law_is_strict_1r : Scope := mkSc [(".0", 0), ("k", 0), ("_law_is_strict", 3), ("due", 2), ("told", 2)]
def N_law_is_strict : List Str := [(Str.ofString "told"), (Str.ofString "due"), (Str.ofString "k")]
def P_law_is_strict : List Str := [(Str.ofString "told"), (Str.ofString "due")]
def df_law_is_strict : He.DefD := ⟨((Str.ofString "_law_is_strict"), none), (Str.ofString "_law_is_strict"), (Str.ofString "_law_is_strict"), defArgs s_law_is_strict, defBody s_law_is_strict, sc_law_is_strict, [], []⟩
theorem nd_law_is_strict : N_law_is_strict.Nodup := by decide +kernel
theorem so_law_is_strict : FnScope N_law_is_strict P_law_is_strict sc_law_is_strict := ⟨rfl, rfl, rfl, nd_law_is_strict, rfl, by decide +kernel, by decide +kernel⟩
theorem g_law_is_strict_0_tuple : sc_law_is_strict.names.lookup (Str.ofString "tuple") = some .globalImplicit := by decide +kernel
theorem n_law_is_strict_due : N_law_is_strict[1]? = some (Str.ofString "due") := rfl
theorem v_law_is_strict_0_due : Vis sc_law_is_strict (Str.ofString "due") := Or.inr (Or.inl (by decide +kernel))
theorem g_law_is_strict_0_isinstance : sc_law_is_strict.names.lookup (Str.ofString "isinstance") = some .globalImplicit := by decide +kernel
theorem g_law_is_strict_0_list : sc_law_is_strict.names.lookup (Str.ofString "list") = some .globalImplicit := by decide +kernel
theorem n_law_is_strict_told : N_law_is_strict[0]? = some (Str.ofString "told") := rfl
theorem v_law_is_strict_0_told : Vis sc_law_is_strict (Str.ofString "told") := Or.inr (Or.inl (by decide +kernel))
theorem g_law_is_strict_0_len : sc_law_is_strict.names.lookup (Str.ofString "len") = some .globalImplicit := by decide +kernel
theorem g_law_is_strict_0_range : sc_law_is_strict.names.lookup (Str.ofString "range") = some .globalImplicit := by decide +kernel
theorem n_law_is_strict_k : N_law_is_strict[2]? = some (Str.ofString "k") := rfl
theorem l_law_is_strict_1_k : Loc sc_law_is_strict_1 (Str.ofString "k") := Or.inl (by decide +kernel)
theorem il_law_is_strict_1_k : sc_law_is_strict_1.names.lookup (Str.ofString "k") = some .local := by decide +kernel
theorem v_law_is_strict_1_k : Vis sc_law_is_strict_1 (Str.ofString "k") := Or.inl (by decide +kernel)
theorem v_law_is_strict_1_due : Vis sc_law_is_strict_1 (Str.ofString "due") := Or.inr (Or.inl (by decide +kernel))
theorem v_law_is_strict_1_told : Vis sc_law_is_strict_1 (Str.ofString "told") := Or.inr (Or.inl (by decide +kernel))
theorem g_law_is_strict_1_law_is_strict : sc_law_is_strict_1.names.lookup (Str.ofString "_law_is_strict") = some .globalImplicit := by decide +kernel
theorem g_law_is_strict_0_all : sc_law_is_strict.names.lookup (Str.ofString "all") = some .globalImplicit := by decide +kernel
theorem g_law_is_strict_0_str : sc_law_is_strict.names.lookup (Str.ofString "str") = some .globalImplicit := by decide +kernel
theorem g_law_is_strict_0_int : sc_law_is_strict.names.lookup (Str.ofString "int") = some .globalImplicit := by decide +kernel
theorem g_law_is_strict_0_bool : sc_law_is_strict.names.lookup (Str.ofString "bool") = some .globalImplicit := by decide +kernel
def b_law_is_strict (m : FM) : MS := (sSeq (sIf (mTOr (mTru (mB (gIsi kt ins) (mCons (mVar 1) (mCons (M.ret (.ty "tuple")) mNil)))) (mTru (mB (gIsi kt ins) (mCons (mVar 1) (mCons (M.ret (.ty "list")) mNil))))) (sSeq (sIf (mTOr (mT (m2 dNe (mB (gIsi kt ins) (mCons (mVar 1) (mCons (M.ret (.ty "tuple")) mNil))) (mB (gIsi kt ins) (mCons (mVar 0) (mCons (M.ret (.ty "tuple")) mNil))))) (mT (m2 dNe (mB (gIsi kt ins) (mCons (mVar 1) (mCons (M.ret (.ty "list")) mNil))) (mB (gIsi kt ins) (mCons (mVar 0) (mCons (M.ret (.ty "list")) mNil)))))) (sRet (M.ret (.bl false))) (fun ev => some (.nx ev))) (sSeq (sIf (mT (m2 dNe (mBN gLen 0) (mBN gLen 1))) (sRet (M.ret (.bl false))) (fun ev => some (.nx ev))) (sRet (mB gAll (mCons (mFz (mComp [2] (setD 2) (M.ret true) (mCall m [] (rCons (mIxN 0 (mVar 2)) (rCons (mIxN 1 (mVar 2)) rNil))) (mRng rng1 (mCons (mBN gLen 1) mNil)))) mNil))))) (fun ev => some (.nx ev))) (sSeq (sIf (mT (m2 dIsN (mVar 1) (M.ret .non))) (sRet (m2 dIsN (mVar 0) (M.ret .non))) (fun ev => some (.nx ev))) (sSeq (sIf (mTru (mB (gIsi kt ins) (mCons (mVar 1) (mCons (M.ret (.ty "str")) mNil)))) (sRet (mAnd (mB (gIsi kt ins) (mCons (mVar 0) (mCons (M.ret (.ty "str")) mNil))) (m2 dEq (mVar 0) (mVar 1)))) (fun ev => some (.nx ev))) (sRet (mAnd (mB (gIsi kt ins) (mCons (mVar 0) (mCons (M.ret (.ty "int")) mNil))) (mAnd (m2 dEq (mB (gIsi kt ins) (mCons (mVar 0) (mCons (M.ret (.ty "bool")) mNil))) (mB (gIsi kt ins) (mCons (mVar 1) (mCons (M.ret (.ty "bool")) mNil)))) (m2 dEq (mVar 0) (mVar 1))))))))
def m_law_is_strict : Nat → FM
  | 0 => fun _ => none
  | n + 1 => mkF 2 3 (b_law_is_strict (m_law_is_strict n))
abbrev s_law_is_near : Stmt := (top 22)
def sc_law_is_near : Scope := mkSc [("thing", 0), ("isinstance", 3), ("int", 3), ("bool", 3)]
def N_law_is_near : List Str := [(Str.ofString "thing")]
def P_law_is_near : List Str := [(Str.ofString "thing")]
def df_law_is_near : He.DefD := ⟨((Str.ofString "_law_is_near"), none), (Str.ofString "_law_is_near"), (Str.ofString "_law_is_near"), defArgs s_law_is_near, defBody s_law_is_near, sc_law_is_near, [], []⟩
theorem nd_law_is_near : N_law_is_near.Nodup := by decide +kernel
theorem so_law_is_near : FnScope N_law_is_near P_law_is_near sc_law_is_near := ⟨rfl, rfl, rfl, nd_law_is_near, rfl, by decide +kernel, by decide +kernel⟩
theorem g_law_is_near_0_int : sc_law_is_near.names.lookup (Str.ofString "int") = some .globalImplicit := by decide +kernel
theorem n_law_is_near_thing : N_law_is_near[0]? = some (Str.ofString "thing") := rfl
theorem v_law_is_near_0_thing : Vis sc_law_is_near (Str.ofString "thing") := Or.inl (by decide +kernel)
theorem g_law_is_near_0_isinstance : sc_law_is_near.names.lookup (Str.ofString "isinstance") = some .globalImplicit := by decide +kernel
theorem g_law_is_near_0_bool : sc_law_is_near.names.lookup (Str.ofString "bool") = some .globalImplicit := by decide +kernel
def b_law_is_near : MS := (sRet (mAnd (mB (gIsi kt ins) (mCons (mVar 0) (mCons (M.ret (.ty "int")) mNil))) (mAnd (mNot (mB (gIsi kt ins) (mCons (mVar 0) (mCons (M.ret (.ty "bool")) mNil)))) (mChain dLe dLe (m1 dNeg (m2 dPow (M.ret (.int 10)) (M.ret (.int 30)))) (mVar 0) (m2 dPow (M.ret (.int 10)) (M.ret (.int 30)))))))
def m_law_is_near : FM := mkF 1 1 b_law_is_near
abbrev s_law_days : Stmt := (top 23)
def sc_law_days : Scope := mkSc [("bag", 0), ("large", 0), ("length", 0), ("_law_of", 3), ("_law_take", 3)]
def N_law_days : List Str := [(Str.ofString "bag"), (Str.ofString "large"), (Str.ofString "length")]
def P_law_days : List Str := [(Str.ofString "bag")]
def df_law_days : He.DefD := ⟨((Str.ofString "_law_days"), none), (Str.ofString "_law_days"), (Str.ofString "_law_days"), defArgs s_law_days, defBody s_law_days, sc_law_days, [], []⟩
theorem nd_law_days : N_law_days.Nodup := by decide +kernel
theorem so_law_days : FnScope N_law_days P_law_days sc_law_days := ⟨rfl, rfl, rfl, nd_law_days, rfl, by decide +kernel, by decide +kernel⟩
theorem n_law_days_bag : N_law_days[0]? = some (Str.ofString "bag") := rfl
theorem v_law_days_0_bag : Vis sc_law_days (Str.ofString "bag") := Or.inl (by decide +kernel)
theorem g_law_days_0_law_take : sc_law_days.names.lookup (Str.ofString "_law_take") = some .globalImplicit := by decide +kernel
theorem g_law_days_0_law_of : sc_law_days.names.lookup (Str.ofString "_law_of") = some .globalImplicit := by decide +kernel
theorem n_law_days_large : N_law_days[1]? = some (Str.ofString "large") := rfl
theorem l_law_days_0_large : Loc sc_law_days (Str.ofString "large") := Or.inl (by decide +kernel)
theorem v_law_days_0_large : Vis sc_law_days (Str.ofString "large") := Or.inl (by decide +kernel)
theorem n_law_days_length : N_law_days[2]? = some (Str.ofString "length") := rfl
theorem l_law_days_0_length : Loc sc_law_days (Str.ofString "length") := Or.inl (by decide +kernel)
theorem v_law_days_0_length : Vis sc_law_days (Str.ofString "length") := Or.inl (by decide +kernel)
def b_law_days : MS := (sSeq (sSet 1 (mCall m_law_of [] (rVar 0 (rCons (mFz (mLst (mCons (m2 dPow (M.ret (.int 10)) (M.ret (.int 6))) (mCons (M.ret (.int 999983)) (mCons (m2 dAdd (M.ret (.int 1)) (mCall m_law_take [] (rVar 0 (rCons (m2 dPow (M.ret (.int 10)) (M.ret (.int 6))) rNil)))) mNil))))) rNil)))) (sSeq (sSet 2 (mCall m_law_of [] (rVar 0 (rCons (mFz (mLst (mCons (M.ret (.int 1)) (mCons (M.ret (.int 2)) (mCons (M.ret (.int 3)) (mCons (M.ret (.int 7)) (mCons (M.ret (.int 24)) (mCons (M.ret (.int 60)) (mCons (M.ret (.int 90)) (mCons (M.ret (.int 360)) (mCons (M.ret (.int 1440)) (mCons (M.ret (.int 1440)) (mCons (m2 dAdd (M.ret (.int 1)) (mCall m_law_take [] (rVar 0 (rCons (M.ret (.int 1440)) rNil)))) (mCons (mVar 1) mNil)))))))))))))) rNil)))) (sRet (mTup (mCons (mVar 2) (mCons (mCall m_law_of [] (rVar 0 (rCons (mFz (mLst (mCons (M.ret (.int 0)) (mCons (M.ret (.int 0)) (mCons (m2 dSub (mVar 2) (M.ret (.int 1))) (mCons (mCall m_law_take [] (rVar 0 (rVar 2 rNil))) mNil)))))) rNil))) mNil))))))
def m_law_days : FM := mkF 1 3 b_law_days
abbrev s_law_is_whole : Stmt := (top 24)
def sc_law_is_whole : Scope := mkSc [("thing", 0), ("isinstance", 3), ("int", 3), ("bool", 3)]
def N_law_is_whole : List Str := [(Str.ofString "thing")]
def P_law_is_whole : List Str := [(Str.ofString "thing")]
def df_law_is_whole : He.DefD := ⟨((Str.ofString "_law_is_whole"), none), (Str.ofString "_law_is_whole"), (Str.ofString "_law_is_whole"), defArgs s_law_is_whole, defBody s_law_is_whole, sc_law_is_whole, [], []⟩
theorem nd_law_is_whole : N_law_is_whole.Nodup := by decide +kernel
theorem so_law_is_whole : FnScope N_law_is_whole P_law_is_whole sc_law_is_whole := ⟨rfl, rfl, rfl, nd_law_is_whole, rfl, by decide +kernel, by decide +kernel⟩
theorem g_law_is_whole_0_int : sc_law_is_whole.names.lookup (Str.ofString "int") = some .globalImplicit := by decide +kernel
theorem n_law_is_whole_thing : N_law_is_whole[0]? = some (Str.ofString "thing") := rfl
theorem v_law_is_whole_0_thing : Vis sc_law_is_whole (Str.ofString "thing") := Or.inl (by decide +kernel)
theorem g_law_is_whole_0_isinstance : sc_law_is_whole.names.lookup (Str.ofString "isinstance") = some .globalImplicit := by decide +kernel
theorem g_law_is_whole_0_bool : sc_law_is_whole.names.lookup (Str.ofString "bool") = some .globalImplicit := by decide +kernel
def b_law_is_whole : MS := (sRet (mAnd (mB (gIsi kt ins) (mCons (mVar 0) (mCons (M.ret (.ty "int")) mNil))) (mNot (mB (gIsi kt ins) (mCons (mVar 0) (mCons (M.ret (.ty "bool")) mNil))))))
def m_law_is_whole : FM := mkF 1 1 b_law_is_whole
abbrev s_law_day_refused : Stmt := (top 25)
def sc_law_day_refused : Scope := mkSc [("length", 0), ("shift", 0), ("told", 0), ("e", 0), ("Days", 3), ("BadDay", 3)]
def N_law_day_refused : List Str := [(Str.ofString "length"), (Str.ofString "shift"), (Str.ofString "told"), (Str.ofString "e")]
def P_law_day_refused : List Str := [(Str.ofString "length"), (Str.ofString "shift")]
def df_law_day_refused : He.DefD := ⟨((Str.ofString "_law_day_refused"), none), (Str.ofString "_law_day_refused"), (Str.ofString "_law_day_refused"), defArgs s_law_day_refused, defBody s_law_day_refused, sc_law_day_refused, [], []⟩
theorem nd_law_day_refused : N_law_day_refused.Nodup := by decide +kernel
theorem so_law_day_refused : FnScope N_law_day_refused P_law_day_refused sc_law_day_refused := ⟨rfl, rfl, rfl, nd_law_day_refused, rfl, by decide +kernel, by decide +kernel⟩
theorem n_law_day_refused_told : N_law_day_refused[2]? = some (Str.ofString "told") := rfl
theorem l_law_day_refused_0_told : Loc sc_law_day_refused (Str.ofString "told") := Or.inl (by decide +kernel)
theorem n_law_day_refused_length : N_law_day_refused[0]? = some (Str.ofString "length") := rfl
theorem v_law_day_refused_0_length : Vis sc_law_day_refused (Str.ofString "length") := Or.inl (by decide +kernel)
theorem n_law_day_refused_shift : N_law_day_refused[1]? = some (Str.ofString "shift") := rfl
theorem v_law_day_refused_0_shift : Vis sc_law_day_refused (Str.ofString "shift") := Or.inl (by decide +kernel)
theorem g_law_day_refused_0_Days : sc_law_day_refused.names.lookup (Str.ofString "Days") = some .globalImplicit := by decide +kernel
theorem n_law_day_refused_e : N_law_day_refused[3]? = some (Str.ofString "e") := rfl
theorem v_law_day_refused_0_e : Vis sc_law_day_refused (Str.ofString "e") := Or.inl (by decide +kernel)
theorem il_law_day_refused_0_e : sc_law_day_refused.names.lookup (Str.ofString "e") = some .local := by decide +kernel
theorem g_law_day_refused_0_BadDay : sc_law_day_refused.names.lookup (Str.ofString "BadDay") = some .globalImplicit := by decide +kernel
theorem v_law_day_refused_0_told : Vis sc_law_day_refused (Str.ofString "told") := Or.inl (by decide +kernel)
def b_law_day_refused : MS := (sSeq (sSet 2 (mFz (mLst mNil))) (sSeq (sTryAs xt "BadDay" 3 (sExpr (mFz (mMake "Days" m_Days___init [.inl 0, .inl 1, .inl 2] (1 + 1) (rApp 1 (rVar 0 rNil) (rCons (mVar 1) rNil))))) (fun e => (sSet 2 (mFz (mLst (mCons (mXf "day" e) mNil)))))) (sRetV 2)))
def m_law_day_refused : FM := mkF 2 4 b_law_day_refused
abbrev s_law_day_due : Stmt := (top 26)
def sc_law_day_due : Scope := mkSc [("length", 0), ("shift", 0), ("_law_is_whole", 3)]
def N_law_day_due : List Str := [(Str.ofString "length"), (Str.ofString "shift")]
def P_law_day_due : List Str := [(Str.ofString "length"), (Str.ofString "shift")]
def df_law_day_due : He.DefD := ⟨((Str.ofString "_law_day_due"), none), (Str.ofString "_law_day_due"), (Str.ofString "_law_day_due"), defArgs s_law_day_due, defBody s_law_day_due, sc_law_day_due, [], []⟩
theorem nd_law_day_due : N_law_day_due.Nodup := by decide +kernel
theorem so_law_day_due : FnScope N_law_day_due P_law_day_due sc_law_day_due := ⟨rfl, rfl, rfl, nd_law_day_due, rfl, by decide +kernel, by decide +kernel⟩
theorem n_law_day_due_length : N_law_day_due[0]? = some (Str.ofString "length") := rfl
theorem v_law_day_due_0_length : Vis sc_law_day_due (Str.ofString "length") := Or.inl (by decide +kernel)
theorem g_law_day_due_0_law_is_whole : sc_law_day_due.names.lookup (Str.ofString "_law_is_whole") = some .globalImplicit := by decide +kernel
theorem n_law_day_due_shift : N_law_day_due[1]? = some (Str.ofString "shift") := rfl
theorem v_law_day_due_0_shift : Vis sc_law_day_due (Str.ofString "shift") := Or.inl (by decide +kernel)
def b_law_day_due : MS := (sSeq (sIf (mTOr (mTNot (mTru (mCall m_law_is_whole [] (rVar 0 rNil)))) (mTNot (mT (mChain dLe dLe (M.ret (.int 1)) (mVar 0) (m2 dPow (M.ret (.int 10)) (M.ret (.int 6))))))) (sRet (mFz (mLst (mCons (mVar 0) mNil)))) (fun ev => some (.nx ev))) (sRet (mIf (mTAnd (mTru (mCall m_law_is_whole [] (rVar 1 rNil))) (mT (mChain dLe dLt (M.ret (.int 0)) (mVar 1) (mVar 0)))) (mFz (mLst mNil)) (mFz (mLst (mCons (mVar 1) mNil))))))
def m_law_day_due : FM := mkF 2 2 b_law_day_due
abbrev s_law_moment_refused : Stmt := (top 27)
def sc_law_moment_refused : Scope := mkSc [("days", 0), ("moment", 0), ("road", 0), ("told", 0), ("e", 0), ("BadMoment", 3)]
def N_law_moment_refused : List Str := [(Str.ofString "days"), (Str.ofString "moment"), (Str.ofString "road"), (Str.ofString "told"), (Str.ofString "e")]
def P_law_moment_refused : List Str := [(Str.ofString "days"), (Str.ofString "moment"), (Str.ofString "road")]
def df_law_moment_refused : He.DefD := ⟨((Str.ofString "_law_moment_refused"), none), (Str.ofString "_law_moment_refused"), (Str.ofString "_law_moment_refused"), defArgs s_law_moment_refused, defBody s_law_moment_refused, sc_law_moment_refused, [], []⟩
theorem nd_law_moment_refused : N_law_moment_refused.Nodup := by decide +kernel
theorem so_law_moment_refused : FnScope N_law_moment_refused P_law_moment_refused sc_law_moment_refused := ⟨rfl, rfl, rfl, nd_law_moment_refused, rfl, by decide +kernel, by decide +kernel⟩
theorem n_law_moment_refused_told : N_law_moment_refused[3]? = some (Str.ofString "told") := rfl
theorem l_law_moment_refused_0_told : Loc sc_law_moment_refused (Str.ofString "told") := Or.inl (by decide +kernel)
theorem n_law_moment_refused_road : N_law_moment_refused[2]? = some (Str.ofString "road") := rfl
theorem v_law_moment_refused_0_road : Vis sc_law_moment_refused (Str.ofString "road") := Or.inl (by decide +kernel)
theorem n_law_moment_refused_days : N_law_moment_refused[0]? = some (Str.ofString "days") := rfl
theorem v_law_moment_refused_0_days : Vis sc_law_moment_refused (Str.ofString "days") := Or.inl (by decide +kernel)
theorem n_law_moment_refused_moment : N_law_moment_refused[1]? = some (Str.ofString "moment") := rfl
theorem v_law_moment_refused_0_moment : Vis sc_law_moment_refused (Str.ofString "moment") := Or.inl (by decide +kernel)
theorem n_law_moment_refused_e : N_law_moment_refused[4]? = some (Str.ofString "e") := rfl
theorem v_law_moment_refused_0_e : Vis sc_law_moment_refused (Str.ofString "e") := Or.inl (by decide +kernel)
theorem il_law_moment_refused_0_e : sc_law_moment_refused.names.lookup (Str.ofString "e") = some .local := by decide +kernel
theorem g_law_moment_refused_0_BadMoment : sc_law_moment_refused.names.lookup (Str.ofString "BadMoment") = some .globalImplicit := by decide +kernel
theorem v_law_moment_refused_0_told : Vis sc_law_moment_refused (Str.ofString "told") := Or.inl (by decide +kernel)
def b_law_moment_refused : MS := (sSeq (sSet 3 (mFz (mLst mNil))) (sSeq (sTryAs xt "BadMoment" 4 (sIf (mT (m2 dEq (mVar 2) (M.ret (.int 0)))) (sExpr (mMeth (fun r => some (rvD r)) "number" [⟨"Days", m_Days_number, (ids 2)⟩] (1 + 0) (mArV 0) (rVar 1 rNil))) (sExpr (mMeth (fun r => some (rvD r)) "position" [⟨"Days", m_Days_position, (ids 2)⟩] (1 + 0) (mArV 0) (rVar 1 rNil)))) (fun e => (sSet 3 (mFz (mLst (mCons (mXf "moment" e) mNil)))))) (sRetV 3)))
def m_law_moment_refused : FM := mkF 3 5 b_law_moment_refused
abbrev s_law_bounds : Stmt := (top 28)
def sc_law_bounds : Scope := mkSc [("days", 0), ("number", 0), ("told", 0), ("e", 0), ("TooFar", 3)]
def N_law_bounds : List Str := [(Str.ofString "days"), (Str.ofString "number"), (Str.ofString "told"), (Str.ofString "e")]
def P_law_bounds : List Str := [(Str.ofString "days"), (Str.ofString "number")]
def df_law_bounds : He.DefD := ⟨((Str.ofString "_law_bounds"), none), (Str.ofString "_law_bounds"), (Str.ofString "_law_bounds"), defArgs s_law_bounds, defBody s_law_bounds, sc_law_bounds, [], []⟩
theorem nd_law_bounds : N_law_bounds.Nodup := by decide +kernel
theorem so_law_bounds : FnScope N_law_bounds P_law_bounds sc_law_bounds := ⟨rfl, rfl, rfl, nd_law_bounds, rfl, by decide +kernel, by decide +kernel⟩
theorem n_law_bounds_days : N_law_bounds[0]? = some (Str.ofString "days") := rfl
theorem v_law_bounds_0_days : Vis sc_law_bounds (Str.ofString "days") := Or.inl (by decide +kernel)
theorem n_law_bounds_number : N_law_bounds[1]? = some (Str.ofString "number") := rfl
theorem v_law_bounds_0_number : Vis sc_law_bounds (Str.ofString "number") := Or.inl (by decide +kernel)
theorem n_law_bounds_told : N_law_bounds[2]? = some (Str.ofString "told") := rfl
theorem l_law_bounds_0_told : Loc sc_law_bounds (Str.ofString "told") := Or.inl (by decide +kernel)
theorem n_law_bounds_e : N_law_bounds[3]? = some (Str.ofString "e") := rfl
theorem v_law_bounds_0_e : Vis sc_law_bounds (Str.ofString "e") := Or.inl (by decide +kernel)
theorem il_law_bounds_0_e : sc_law_bounds.names.lookup (Str.ofString "e") = some .local := by decide +kernel
theorem g_law_bounds_0_TooFar : sc_law_bounds.names.lookup (Str.ofString "TooFar") = some .globalImplicit := by decide +kernel
theorem v_law_bounds_0_told : Vis sc_law_bounds (Str.ofString "told") := Or.inl (by decide +kernel)
def b_law_bounds : MS := (sSeq (sTryAs xt "TooFar" 3 (sSet 2 (mMeth (fun r => some (rvD r)) "bounds" [⟨"Days", m_Days_bounds, (ids 2)⟩] (1 + 0) (mArV 0) (rVar 1 rNil))) (fun e => (sSet 2 (mFz (mLst (mCons (mXf "edge" e) mNil)))))) (sRetV 2))
def m_law_bounds : FM := mkF 2 4 b_law_bounds
abbrev s_law_bounds_due : Stmt := (top 29)
def sc_law_bounds_due : Scope := mkSc [("length", 0), ("shift", 0), ("number", 0), ("begin", 0), ("edge", 0), ("_law_is_near", 3)]
def N_law_bounds_due : List Str := [(Str.ofString "length"), (Str.ofString "shift"), (Str.ofString "number"), (Str.ofString "begin"), (Str.ofString "edge")]
def P_law_bounds_due : List Str := [(Str.ofString "length"), (Str.ofString "shift"), (Str.ofString "number")]
def df_law_bounds_due : He.DefD := ⟨((Str.ofString "_law_bounds_due"), none), (Str.ofString "_law_bounds_due"), (Str.ofString "_law_bounds_due"), defArgs s_law_bounds_due, defBody s_law_bounds_due, sc_law_bounds_due, [], []⟩
theorem nd_law_bounds_due : N_law_bounds_due.Nodup := by decide +kernel
theorem so_law_bounds_due : FnScope N_law_bounds_due P_law_bounds_due sc_law_bounds_due := ⟨rfl, rfl, rfl, nd_law_bounds_due, rfl, by decide +kernel, by decide +kernel⟩
theorem n_law_bounds_due_shift : N_law_bounds_due[1]? = some (Str.ofString "shift") := rfl
theorem v_law_bounds_due_0_shift : Vis sc_law_bounds_due (Str.ofString "shift") := Or.inl (by decide +kernel)
theorem n_law_bounds_due_number : N_law_bounds_due[2]? = some (Str.ofString "number") := rfl
theorem v_law_bounds_due_0_number : Vis sc_law_bounds_due (Str.ofString "number") := Or.inl (by decide +kernel)
theorem n_law_bounds_due_length : N_law_bounds_due[0]? = some (Str.ofString "length") := rfl
theorem v_law_bounds_due_0_length : Vis sc_law_bounds_due (Str.ofString "length") := Or.inl (by decide +kernel)
theorem n_law_bounds_due_begin : N_law_bounds_due[3]? = some (Str.ofString "begin") := rfl
theorem l_law_bounds_due_0_begin : Loc sc_law_bounds_due (Str.ofString "begin") := Or.inl (by decide +kernel)
theorem v_law_bounds_due_0_begin : Vis sc_law_bounds_due (Str.ofString "begin") := Or.inl (by decide +kernel)
theorem n_law_bounds_due_edge : N_law_bounds_due[4]? = some (Str.ofString "edge") := rfl
theorem l_law_bounds_due_0_edge : Loc sc_law_bounds_due (Str.ofString "edge") := Or.inl (by decide +kernel)
theorem v_law_bounds_due_0_edge : Vis sc_law_bounds_due (Str.ofString "edge") := Or.inl (by decide +kernel)
theorem g_law_bounds_due_0_law_is_near : sc_law_bounds_due.names.lookup (Str.ofString "_law_is_near") = some .globalImplicit := by decide +kernel
def b_law_bounds_due : MS := (sSeq (sSet 3 (m2 dAdd (mVar 1) (m2 dMulI (mVar 2) (mVar 0)))) (sSeq (sFor (setD 4) (mItems (mTup (mCons (mVar 3) (mCons (m2 dAdd (mVar 3) (mVar 0)) mNil)))) (sIf (mTNot (mTru (mCall m_law_is_near [] (rVar 4 rNil)))) (sRet (mFz (mLst (mCons (mVar 4) mNil)))) (fun ev => some (.nx ev)))) (sRet (mTup (mCons (mVar 3) (mCons (m2 dAdd (mVar 3) (mVar 0)) mNil))))))
def m_law_bounds_due : FM := mkF 3 5 b_law_bounds_due
abbrev s_law_moment : Stmt := (top 30)
def sc_law_moment : Scope := mkSc [("bag", 0), ("far", 0), ("_law_take", 3), ("_law_of", 3), ("_law_number", 3)]
def N_law_moment : List Str := [(Str.ofString "bag"), (Str.ofString "far")]
def P_law_moment : List Str := [(Str.ofString "bag")]
def df_law_moment : He.DefD := ⟨((Str.ofString "_law_moment"), none), (Str.ofString "_law_moment"), (Str.ofString "_law_moment"), defArgs s_law_moment, defBody s_law_moment, sc_law_moment, [], []⟩
theorem nd_law_moment : N_law_moment.Nodup := by decide +kernel
theorem so_law_moment : FnScope N_law_moment P_law_moment sc_law_moment := ⟨rfl, rfl, rfl, nd_law_moment, rfl, by decide +kernel, by decide +kernel⟩
theorem n_law_moment_bag : N_law_moment[0]? = some (Str.ofString "bag") := rfl
theorem v_law_moment_0_bag : Vis sc_law_moment (Str.ofString "bag") := Or.inl (by decide +kernel)
theorem g_law_moment_0_law_take : sc_law_moment.names.lookup (Str.ofString "_law_take") = some .globalImplicit := by decide +kernel
theorem n_law_moment_far : N_law_moment[1]? = some (Str.ofString "far") := rfl
theorem l_law_moment_0_far : Loc sc_law_moment (Str.ofString "far") := Or.inl (by decide +kernel)
theorem v_law_moment_0_far : Vis sc_law_moment (Str.ofString "far") := Or.inl (by decide +kernel)
theorem g_law_moment_0_law_number : sc_law_moment.names.lookup (Str.ofString "_law_number") = some .globalImplicit := by decide +kernel
theorem g_law_moment_0_law_of : sc_law_moment.names.lookup (Str.ofString "_law_of") = some .globalImplicit := by decide +kernel
def b_law_moment : MS := (sSeq (sSet 1 (m2 dSub (m2 dSub (m2 dPow (M.ret (.int 10)) (M.ret (.int 31))) (M.ret (.int 1))) (mCall m_law_take [] (rVar 0 (rCons (M.ret (.int 2)) rNil))))) (sRet (mCall m_law_of [] (rVar 0 (rCons (mFz (mLst (mCons (mCall m_law_number [] (rVar 0 rNil)) (mCons (mVar 1) (mCons (m1 dNeg (mVar 1)) (mCons (m2 dSub (mCall m_law_take [] (rVar 0 (rCons (M.ret (.int 3000)) rNil))) (M.ret (.int 1500))) mNil)))))) rNil)))))
def m_law_moment : FM := mkF 1 2 b_law_moment
abbrev s_law_right : Stmt := (top 31)
def sc_law_right : Scope := mkScM [("bag", 0), ("length", 0), ("shift", 0), ("days", 1), ("some", 0), ("one", 0), ("two", 0), ("pair", 0), ("turn", 0), ("moment", 0), ("day", 0), ("edge", 0), ("odd", 1), ("twin", 0), ("whole", 0), ("other", 0), ("_law_days", 3), ("Days", 3), ("_law_is_strict", 3), ("_law_of", 3), ("_law_day_refused", 3), ("_law_day_due", 3), ("range", 3), ("_law_moment", 3), ("_law_bounds", 3), ("_law_bounds_due", 3), ("_law_take", 3)] [("fast", "bag"), ("fast", "length"), ("fast", "shift"), ("fast", "days"), ("fast", "some"), ("fast", "one"), ("fast", "two"), ("fast", "pair"), ("fast", "turn"), ("fast", "moment"), ("fast", "day"), ("fast", "edge"), ("fast", "odd"), ("fast", "k"), ("fast", "twin"), ("fast", "whole"), ("fast", "other")]
def sc_law_right_1 : Scope := mkSc [(".0", 0), ("k", 0), ("_law_moment_refused", 3), ("days", 1), ("odd", 1)]
def sc_law_right_1r : Scope := mkSc [(".0", 0), ("k", 0), ("_law_moment_refused", 3), ("days", 2), ("odd", 2)]
def N_law_right : List Str := [(Str.ofString "bag"), (Str.ofString "length"), (Str.ofString "shift"), (Str.ofString "days"), (Str.ofString "some"), (Str.ofString "one"), (Str.ofString "two"), (Str.ofString "pair"), (Str.ofString "turn"), (Str.ofString "moment"), (Str.ofString "day"), (Str.ofString "edge"), (Str.ofString "odd"), (Str.ofString "twin"), (Str.ofString "whole"), (Str.ofString "other"), (Str.ofString "k")]
def P_law_right : List Str := [(Str.ofString "bag")]
def df_law_right : He.DefD := ⟨((Str.ofString "_law_right"), none), (Str.ofString "_law_right"), (Str.ofString "_law_right"), defArgs s_law_right, defBody s_law_right, sc_law_right, [], []⟩
theorem nd_law_right : N_law_right.Nodup := by decide +kernel
theorem so_law_right : FnScope N_law_right P_law_right sc_law_right := ⟨rfl, rfl, rfl, nd_law_right, rfl, by decide +kernel, by decide +kernel⟩
theorem n_law_right_bag : N_law_right[0]? = some (Str.ofString "bag") := rfl
theorem v_law_right_0_bag : Vis sc_law_right (Str.ofString "bag") := Or.inl (by decide +kernel)
theorem g_law_right_0_law_days : sc_law_right.names.lookup (Str.ofString "_law_days") = some .globalImplicit := by decide +kernel
theorem n_law_right_shift : N_law_right[2]? = some (Str.ofString "shift") := rfl
theorem l_law_right_0_shift : Loc sc_law_right (Str.ofString "shift") := Or.inl (by decide +kernel)
theorem n_law_right_length : N_law_right[1]? = some (Str.ofString "length") := rfl
theorem l_law_right_0_length : Loc sc_law_right (Str.ofString "length") := Or.inl (by decide +kernel)
theorem v_law_right_0_length : Vis sc_law_right (Str.ofString "length") := Or.inl (by decide +kernel)
theorem v_law_right_0_shift : Vis sc_law_right (Str.ofString "shift") := Or.inl (by decide +kernel)
theorem g_law_right_0_Days : sc_law_right.names.lookup (Str.ofString "Days") = some .globalImplicit := by decide +kernel
theorem n_law_right_days : N_law_right[3]? = some (Str.ofString "days") := rfl
theorem l_law_right_0_days : Loc sc_law_right (Str.ofString "days") := Or.inr (by decide +kernel)
theorem v_law_right_0_days : Vis sc_law_right (Str.ofString "days") := Or.inr (Or.inl (by decide +kernel))
theorem g_law_right_0_law_is_strict : sc_law_right.names.lookup (Str.ofString "_law_is_strict") = some .globalImplicit := by decide +kernel
theorem n_law_right_some : N_law_right[4]? = some (Str.ofString "some") := rfl
theorem l_law_right_0_some : Loc sc_law_right (Str.ofString "some") := Or.inl (by decide +kernel)
theorem v_law_right_0_some : Vis sc_law_right (Str.ofString "some") := Or.inl (by decide +kernel)
theorem g_law_right_0_law_of : sc_law_right.names.lookup (Str.ofString "_law_of") = some .globalImplicit := by decide +kernel
theorem n_law_right_one : N_law_right[5]? = some (Str.ofString "one") := rfl
theorem n_law_right_two : N_law_right[6]? = some (Str.ofString "two") := rfl
theorem il_law_right_0_one : sc_law_right.names.lookup (Str.ofString "one") = some .local := by decide +kernel
theorem il_law_right_0_two : sc_law_right.names.lookup (Str.ofString "two") = some .local := by decide +kernel
theorem v_law_right_0_one : Vis sc_law_right (Str.ofString "one") := Or.inl (by decide +kernel)
theorem v_law_right_0_two : Vis sc_law_right (Str.ofString "two") := Or.inl (by decide +kernel)
theorem n_law_right_pair : N_law_right[7]? = some (Str.ofString "pair") := rfl
theorem l_law_right_0_pair : Loc sc_law_right (Str.ofString "pair") := Or.inl (by decide +kernel)
theorem v_law_right_0_pair : Vis sc_law_right (Str.ofString "pair") := Or.inl (by decide +kernel)
theorem g_law_right_0_law_day_due : sc_law_right.names.lookup (Str.ofString "_law_day_due") = some .globalImplicit := by decide +kernel
theorem g_law_right_0_law_day_refused : sc_law_right.names.lookup (Str.ofString "_law_day_refused") = some .globalImplicit := by decide +kernel
theorem g_law_right_0_range : sc_law_right.names.lookup (Str.ofString "range") = some .globalImplicit := by decide +kernel
theorem n_law_right_turn : N_law_right[8]? = some (Str.ofString "turn") := rfl
theorem l_law_right_0_turn : Loc sc_law_right (Str.ofString "turn") := Or.inl (by decide +kernel)
theorem g_law_right_0_law_moment : sc_law_right.names.lookup (Str.ofString "_law_moment") = some .globalImplicit := by decide +kernel
theorem n_law_right_moment : N_law_right[9]? = some (Str.ofString "moment") := rfl
theorem l_law_right_0_moment : Loc sc_law_right (Str.ofString "moment") := Or.inl (by decide +kernel)
theorem v_law_right_0_moment : Vis sc_law_right (Str.ofString "moment") := Or.inl (by decide +kernel)
theorem n_law_right_day : N_law_right[10]? = some (Str.ofString "day") := rfl
theorem l_law_right_0_day : Loc sc_law_right (Str.ofString "day") := Or.inl (by decide +kernel)
theorem v_law_right_0_day : Vis sc_law_right (Str.ofString "day") := Or.inl (by decide +kernel)
theorem g_law_right_0_law_bounds_due : sc_law_right.names.lookup (Str.ofString "_law_bounds_due") = some .globalImplicit := by decide +kernel
theorem g_law_right_0_law_bounds : sc_law_right.names.lookup (Str.ofString "_law_bounds") = some .globalImplicit := by decide +kernel
theorem n_law_right_edge : N_law_right[11]? = some (Str.ofString "edge") := rfl
theorem l_law_right_0_edge : Loc sc_law_right (Str.ofString "edge") := Or.inl (by decide +kernel)
theorem v_law_right_0_edge : Vis sc_law_right (Str.ofString "edge") := Or.inl (by decide +kernel)
theorem g_law_right_0_law_take : sc_law_right.names.lookup (Str.ofString "_law_take") = some .globalImplicit := by decide +kernel
theorem n_law_right_odd : N_law_right[12]? = some (Str.ofString "odd") := rfl
theorem l_law_right_0_odd : Loc sc_law_right (Str.ofString "odd") := Or.inr (by decide +kernel)
theorem v_law_right_0_odd : Vis sc_law_right (Str.ofString "odd") := Or.inr (Or.inl (by decide +kernel))
theorem n_law_right_k : N_law_right[16]? = some (Str.ofString "k") := rfl
theorem l_law_right_1_k : Loc sc_law_right_1 (Str.ofString "k") := Or.inl (by decide +kernel)
theorem il_law_right_1_k : sc_law_right_1.names.lookup (Str.ofString "k") = some .local := by decide +kernel
theorem v_law_right_1_k : Vis sc_law_right_1 (Str.ofString "k") := Or.inl (by decide +kernel)
theorem v_law_right_1_odd : Vis sc_law_right_1 (Str.ofString "odd") := Or.inr (Or.inl (by decide +kernel))
theorem v_law_right_1_days : Vis sc_law_right_1 (Str.ofString "days") := Or.inr (Or.inl (by decide +kernel))
theorem g_law_right_1_law_moment_refused : sc_law_right_1.names.lookup (Str.ofString "_law_moment_refused") = some .globalImplicit := by decide +kernel
theorem n_law_right_twin : N_law_right[13]? = some (Str.ofString "twin") := rfl
theorem l_law_right_0_twin : Loc sc_law_right (Str.ofString "twin") := Or.inl (by decide +kernel)
theorem v_law_right_0_twin : Vis sc_law_right (Str.ofString "twin") := Or.inl (by decide +kernel)
theorem n_law_right_whole : N_law_right[14]? = some (Str.ofString "whole") := rfl
theorem l_law_right_0_whole : Loc sc_law_right (Str.ofString "whole") := Or.inl (by decide +kernel)
theorem v_law_right_0_whole : Vis sc_law_right (Str.ofString "whole") := Or.inl (by decide +kernel)
theorem n_law_right_other : N_law_right[15]? = some (Str.ofString "other") := rfl
theorem l_law_right_0_other : Loc sc_law_right (Str.ofString "other") := Or.inl (by decide +kernel)
theorem v_law_right_0_other : Vis sc_law_right (Str.ofString "other") := Or.inl (by decide +kernel)
def b_law_right_1 : MS := (sAsg (gsTup 2 (gsCons (setD 1) (gsCons (setD 2) gsNil))) (mCall m_law_days [] (rVar 0 rNil)))
def b_law_right_2 : MS := (sSet 3 (mFz (mMake "Days" m_Days___init [.inl 0, .inl 1, .inl 2] (1 + 1) (rApp 1 (rVar 1 rNil) (rCons (mVar 2) rNil)))))
def b_law_right_3 : MS := (sIf (mTNot (mTru (mCall (m_law_is_strict 6) [] (rCons (mFz (mLst (mCons (mFld "length" ["Days"] (mArV 3)) (mCons (mFld "offset" ["Days"] (mArV 3)) (mCons (mCls "Days" (.int 400) (M.ret (.cls "Days"))) (mCons (mCon "MOST" [("Days", (.int 400))] (mArV 3)) mNil)))))) (rCons (mFz (mLst (mCons (mVar 1) (mCons (mVar 2) (mCons (M.ret (.int 400)) (mCons (M.ret (.int 400)) mNil)))))) rNil))))) (sRet (M.ret (.bl false))) (fun ev => some (.nx ev)))
def b_law_right_4 : MS := (sSet 4 (mFz (mLst (mCons (M.ret .non) (mCons (M.ret (.bl true)) (mCons (M.ret (.bl false)) (mCons (M.ret (.int 0)) (mCons (M.ret (.int 1)) (mCons (m1 dNeg (M.ret (.int 1))) (mCons (M.ret (.int 2)) (mCons (M.ret (.int 24)) (mCons (m2 dPow (M.ret (.int 10)) (M.ret (.int 6))) (mCons (m2 dAdd (m2 dPow (M.ret (.int 10)) (M.ret (.int 6))) (M.ret (.int 1))) (mCons (M.ret (.str (Str.ofString "24"))) (mCons (mTup (mCons (M.ret (.int 24)) mNil)) (mCons (mFz (mLst (mCons (M.ret (.int 1)) mNil))) (mCons (mVar 1) (mCons (m2 dSub (mVar 1) (M.ret (.int 1))) (mCons (mVar 2) (mCons (m2 dPow (M.ret (.int 10)) (M.ret (.int 30))) mNil))))))))))))))))))))
def b_law_right_5 : MS := (sPar 5 6 (mCons (mCall m_law_of [] (rVar 0 (rVar 4 rNil))) (mCons (mCall m_law_of [] (rVar 0 (rVar 4 rNil))) mNil)))
def b_law_right_6 : MS := (sFor (setD 7) (mItems (mTup (mCons (mFz (mLst (mCons (mVar 5) (mCons (mVar 6) mNil)))) (mCons (mFz (mLst (mCons (mVar 1) (mCons (mVar 6) mNil)))) (mCons (mFz (mLst (mCons (mVar 5) (mCons (mVar 2) mNil)))) (mCons (mFz (mLst (mCons (mVar 1) (mCons (mVar 1) mNil)))) (mCons (mFz (mLst (mCons (mVar 1) (mCons (m1 dNeg (M.ret (.int 1))) mNil)))) (mCons (mFz (mLst (mCons (M.ret (.int 1)) (mCons (M.ret (.int 0)) mNil)))) (mCons (mFz (mLst (mCons (mVar 1) (mCons (mVar 2) mNil)))) mNil))))))))) (sIf (mTNot (mTru (mCall (m_law_is_strict 6) [] (rCons (mCall m_law_day_refused [] (rCons (mIxN 7 (M.ret (.int 0))) (rCons (mIxN 7 (M.ret (.int 1))) rNil))) (rCons (mCall m_law_day_due [] (rCons (mIxN 7 (M.ret (.int 0))) (rCons (mIxN 7 (M.ret (.int 1))) rNil))) rNil))))) (sRet (M.ret (.bl false))) (fun ev => some (.nx ev))))
def b_law_right_7 : MS := (sFor (setD 8) (mRng rng1 (mCons (M.ret (.int 4)) mNil)) (sSeq (sSet 9 (mCall m_law_moment [] (rVar 0 rNil))) (sSeq (sSet 10 (m2 dFdiv (m2 dSub (mVar 9) (mVar 2)) (mVar 1))) (sSeq (sIf (mTNot (mTru (mCall (m_law_is_strict 6) [] (rCons (mFz (mLst (mCons (mMeth (fun r => some (rvD r)) "number" [⟨"Days", m_Days_number, (ids 2)⟩] (1 + 0) (mArV 3) (rVar 9 rNil)) (mCons (mMeth (fun r => some (rvD r)) "position" [⟨"Days", m_Days_position, (ids 2)⟩] (1 + 0) (mArV 3) (rVar 9 rNil)) mNil)))) (rCons (mFz (mLst (mCons (mVar 10) (mCons (m2 dSub (m2 dSub (mVar 9) (mVar 2)) (m2 dMulI (mVar 10) (mVar 1))) mNil)))) rNil))))) (sRet (M.ret (.bl false))) (fun ev => some (.nx ev))) (sSeq (sIf (mTNot (mTru (mCall (m_law_is_strict 6) [] (rCons (mCall m_law_bounds [] (rVar 3 (rVar 10 rNil))) (rCons (mCall m_law_bounds_due [] (rVar 1 (rVar 2 (rVar 10 rNil)))) rNil))))) (sRet (M.ret (.bl false))) (fun ev => some (.nx ev))) (sSeq (sSet 11 (mCall m_law_of [] (rVar 0 (rCons (mFz (mLst (mCons (m2 dPow (M.ret (.int 10)) (M.ret (.int 30))) (mCons (m1 dNeg (m2 dPow (M.ret (.int 10)) (M.ret (.int 30)))) mNil)))) rNil)))) (sSeq (sSet 10 (m2 dSub (m2 dAdd (m2 dFdiv (m2 dSub (mVar 11) (mVar 2)) (mVar 1)) (mCall m_law_take [] (rVar 0 (rCons (M.ret (.int 4)) rNil)))) (M.ret (.int 2)))) (sIf (mTNot (mTru (mCall (m_law_is_strict 6) [] (rCons (mCall m_law_bounds [] (rVar 3 (rVar 10 rNil))) (rCons (mCall m_law_bounds_due [] (rVar 1 (rVar 2 (rVar 10 rNil)))) rNil))))) (sRet (M.ret (.bl false))) (fun ev => some (.nx ev))))))))))
def b_law_right_8 : MS := (sSet 12 (mCall m_law_of [] (rVar 0 (rCons (mFz (mLst (mCons (M.ret .non) (mCons (M.ret (.bl true)) (mCons (M.ret (.str (Str.ofString "0"))) (mCons (m2 dPow (M.ret (.int 10)) (M.ret (.int 31))) (mCons (m1 dNeg (m2 dPow (M.ret (.int 10)) (M.ret (.int 31)))) (mCons (m2 dAdd (m2 dPow (M.ret (.int 10)) (M.ret (.int 31))) (M.ret (.int 5))) (mCons (mTup (mCons (M.ret (.int 1)) mNil)) (mCons (mFz (mLst mNil)) (mCons (M.ret (.bl false)) mNil))))))))))) rNil))))
def b_law_right_9 : MS := (sIf (mTNot (mTru (mCall (m_law_is_strict 6) [] (rCons (mFz (mComp [16] (setD 16) (M.ret true) (mCall m_law_moment_refused [] (rVar 3 (rVar 12 (rVar 16 rNil)))) (mRng rng1 (mCons (M.ret (.int 2)) mNil)))) (rCons (mFz (mLst (mCons (mFz (mLst (mCons (mVar 12) mNil))) (mCons (mFz (mLst (mCons (mVar 12) mNil))) mNil)))) rNil))))) (sRet (M.ret (.bl false))) (fun ev => some (.nx ev)))
def b_law_right_10 : MS := (sSet 13 (mFz (mMake "Days" m_Days___init [.inl 0, .inl 1, .inl 2] (1 + 1) (rApp 1 (rVar 1 rNil) (rCons (m2 dMod (m2 dAdd (mVar 2) (M.ret (.int 1))) (mVar 1)) rNil)))))
def b_law_right_11 : MS := (sIf (mTOr (mT (m2 (dNeG [⟨"Days", m_Days___eq⟩] nf ins) (m2 (dEqG [⟨"Days", m_Days___eq⟩] nf ins) (mVar 3) (mVar 13)) (m2 (dEqG [⟨"Days", m_Days___eq⟩] nf ins) (mVar 1) (M.ret (.int 1))))) (mT (m2 (dNeG [⟨"Days", m_Days___eq⟩] nf ins) (m2 (dNeG [⟨"Days", m_Days___eq⟩] nf ins) (mVar 13) (mVar 3)) (m2 dGt (mVar 1) (M.ret (.int 1)))))) (sRet (M.ret (.bl false))) (fun ev => some (.nx ev)))
def b_law_right_12 : MS := (sSet 14 (mCall m_law_of [] (rVar 0 (rCons (mFz (mLst (mCons (mVar 1) (mCons (m2 dAdd (m2 dMod (mVar 1) (M.ret (.int 1000))) (M.ret (.int 1))) mNil)))) rNil))))
def b_law_right_13 : MS := (sSet 15 (mFz (mMake "Days" m_Days___init [.inl 0, .inl 1, .inr (.int 0)] (1 + 0) (rVar 14 rNil))))
def b_law_right_14 : MS := (sIf (mTOr (mT (m2 (dNeG [⟨"Days", m_Days___eq⟩] nf ins) (m2 (dEqG [⟨"Days", m_Days___eq⟩] nf ins) (mVar 3) (mVar 15)) (mAnd (m2 (dEqG [⟨"Days", m_Days___eq⟩] nf ins) (mVar 1) (mVar 14)) (m2 (dEqG [⟨"Days", m_Days___eq⟩] nf ins) (mVar 2) (M.ret (.int 0)))))) (mTNot (mT (m2 (dEqG [⟨"Days", m_Days___eq⟩] nf ins) (mVar 3) (mFz (mMake "Days" m_Days___init [.inl 0, .inl 1, .inl 2] (1 + 1) (rApp 1 (rVar 1 rNil) (rCons (mVar 2) rNil)))))))) (sRet (M.ret (.bl false))) (fun ev => some (.nx ev)))
def b_law_right_15 : MS := (sRet (mAnd (m2 (dNeG [⟨"Days", m_Days___eq⟩] nf ins) (mVar 3) (mFz (mMake "Days" m_Days___init [.inl 0, .inl 1, .inl 2] (1 + 1) (rApp 1 (rCons (m2 dAdd (m2 dMod (mVar 1) (m2 dPow (M.ret (.int 10)) (M.ret (.int 6)))) (M.ret (.int 1))) rNil) (rCons (M.ret (.int 0)) rNil))))) (mAnd (mNot (m2 (dEqG [⟨"Days", m_Days___eq⟩] nf ins) (mVar 3) (mVar 1))) (mNot (m2 (dEqG [⟨"Days", m_Days___eq⟩] nf ins) (mVar 3) (mTup (mCons (mVar 1) (mCons (mVar 2) mNil))))))))
def b_law_right : MS := (sSeq b_law_right_1 (sSeq b_law_right_2 (sSeq b_law_right_3 (sSeq b_law_right_4 (sSeq b_law_right_5 (sSeq b_law_right_6 (sSeq b_law_right_7 (sSeq b_law_right_8 (sSeq b_law_right_9 (sSeq b_law_right_10 (sSeq b_law_right_11 (sSeq b_law_right_12 (sSeq b_law_right_13 (sSeq b_law_right_14 b_law_right_15))))))))))))))
def m_law_right : FM := mkF 1 17 b_law_right
abbrev s_law : Stmt := (top 32)
def sc_law : Scope := mkSc [("script", 0), ("plain", 0), ("at", 0), ("bag", 0), ("turn", 0), ("Days", 3), ("_law_is_strict", 3), ("range", 3), ("max", 3), ("min", 3), ("len", 3), ("_law_bag", 3), ("_law_right", 3)]
def N_law : List Str := [(Str.ofString "script"), (Str.ofString "plain"), (Str.ofString "at"), (Str.ofString "bag"), (Str.ofString "turn")]
def P_law : List Str := [(Str.ofString "script")]
def df_law : He.DefD := ⟨((Str.ofString "law"), none), (Str.ofString "law"), (Str.ofString "law"), defArgs s_law, defBody s_law, sc_law, [], []⟩
theorem nd_law : N_law.Nodup := by decide +kernel
theorem so_law : FnScope N_law P_law sc_law := ⟨rfl, rfl, rfl, nd_law, rfl, by decide +kernel, by decide +kernel⟩
theorem g_law_0_Days : sc_law.names.lookup (Str.ofString "Days") = some .globalImplicit := by decide +kernel
theorem n_law_plain : N_law[1]? = some (Str.ofString "plain") := rfl
theorem l_law_0_plain : Loc sc_law (Str.ofString "plain") := Or.inl (by decide +kernel)
theorem v_law_0_plain : Vis sc_law (Str.ofString "plain") := Or.inl (by decide +kernel)
theorem g_law_0_law_is_strict : sc_law.names.lookup (Str.ofString "_law_is_strict") = some .globalImplicit := by decide +kernel
theorem g_law_0_len : sc_law.names.lookup (Str.ofString "len") = some .globalImplicit := by decide +kernel
theorem n_law_script : N_law[0]? = some (Str.ofString "script") := rfl
theorem v_law_0_script : Vis sc_law (Str.ofString "script") := Or.inl (by decide +kernel)
theorem g_law_0_min : sc_law.names.lookup (Str.ofString "min") = some .globalImplicit := by decide +kernel
theorem g_law_0_max : sc_law.names.lookup (Str.ofString "max") = some .globalImplicit := by decide +kernel
theorem g_law_0_range : sc_law.names.lookup (Str.ofString "range") = some .globalImplicit := by decide +kernel
theorem n_law_at : N_law[2]? = some (Str.ofString "at") := rfl
theorem l_law_0_at : Loc sc_law (Str.ofString "at") := Or.inl (by decide +kernel)
theorem v_law_0_at : Vis sc_law (Str.ofString "at") := Or.inl (by decide +kernel)
theorem g_law_0_law_bag : sc_law.names.lookup (Str.ofString "_law_bag") = some .globalImplicit := by decide +kernel
theorem n_law_bag : N_law[3]? = some (Str.ofString "bag") := rfl
theorem l_law_0_bag : Loc sc_law (Str.ofString "bag") := Or.inl (by decide +kernel)
theorem n_law_turn : N_law[4]? = some (Str.ofString "turn") := rfl
theorem l_law_0_turn : Loc sc_law (Str.ofString "turn") := Or.inl (by decide +kernel)
theorem v_law_0_bag : Vis sc_law (Str.ofString "bag") := Or.inl (by decide +kernel)
theorem g_law_0_law_right : sc_law.names.lookup (Str.ofString "_law_right") = some .globalImplicit := by decide +kernel
def b_law_1 : MS := (sSet 1 (mFz (mMake "Days" m_Days___init [.inl 0, .inr (.int 1440), .inr (.int 0)] (0 + 0) rNil)))
def b_law_2 : MS := (sIf (mTOr (mTNot (mTru (mCall (m_law_is_strict 6) [] (rCons (mFz (mLst (mCons (mFld "length" ["Days"] (mArV 1)) (mCons (mFld "offset" ["Days"] (mArV 1)) mNil)))) (rCons (mFz (mLst (mCons (M.ret (.int 1440)) (mCons (M.ret (.int 0)) mNil)))) rNil))))) (mT (m2 (dNeG [⟨"Days", m_Days___eq⟩] nf ins) (mVar 1) (mFz (mMake "Days" m_Days___init [.inl 0, .inl 1, .inl 2] (1 + 1) (rApp 1 (rCons (M.ret (.int 1440)) rNil) (rCons (M.ret (.int 0)) rNil))))))) (sRet (M.ret (.bl false))) (fun ev => some (.nx ev)))
def b_law_3 : MS := (sFor (setD 2) (mRng rng1 (mCons (mB gMax2 (mCons (M.ret (.int 1)) (mCons (mB gMin2 (mCons (M.ret (.int 6)) (mCons (mBN gLen 0) mNil))) mNil))) mNil)) (sSeq (sSetF 3 (mCallF m_law_bag [] (rVar 0 (rVar 2 rNil)))) (sFor (setD 4) (mRng rng1 (mCons (M.ret (.int 2)) mNil)) (sIf (mTNot (mTru (mCall m_law_right [] (rVar 3 rNil)))) (sRet (M.ret (.bl false))) (fun ev => some (.nx ev))))))
def b_law_4 : MS := (sRet (M.ret (.bl true)))
def b_law : MS := (sSeq b_law_1 (sSeq b_law_2 (sSeq b_law_3 b_law_4)))
def m_law : FM := mkF 1 5 b_law
def fa : List He.Fa := [.meth (Str.ofString "BadMoment") (Str.ofString "__init__"), .noat (Str.ofString "BadMoment") (Str.ofString "moment"), .free (Str.ofString "ValueError"), .glo (Str.ofString "BadMoment"), .meth (Str.ofString "BadDay") (Str.ofString "__init__"), .noat (Str.ofString "BadDay") (Str.ofString "day"), .glo (Str.ofString "BadDay"), .meth (Str.ofString "TooFar") (Str.ofString "__init__"), .noat (Str.ofString "TooFar") (Str.ofString "edge"), .free (Str.ofString "OverflowError"), .glo (Str.ofString "TooFar"), .free (Str.ofString "int"), .free (Str.ofString "isinstance"), .free (Str.ofString "bool"), .glo (Str.ofString "is_integer"), .glo (Str.ofString "is_near"), .glo (Str.ofString "is_moment"), .glo (Str.ofString "checked_edge"), .cls (Str.ofString "Days"), .noat (Str.ofString "Days") (Str.ofString "length"), .noat (Str.ofString "Days") (Str.ofString "offset"), .free (Str.ofString "len"), .free (Str.ofString "abs"), .glo (Str.ofString "_law_bag"), .glo (Str.ofString "_law_take"), .glo (Str.ofString "_law_of"), .glo (Str.ofString "_law_number"), .free (Str.ofString "tuple"), .free (Str.ofString "list"), .free (Str.ofString "range"), .free (Str.ofString "all"), .free (Str.ofString "str"), .glo (Str.ofString "_law_is_strict"), .glo (Str.ofString "_law_is_near"), .glo (Str.ofString "_law_days"), .glo (Str.ofString "_law_is_whole"), .glo (Str.ofString "Days"), .glo (Str.ofString "_law_day_refused"), .glo (Str.ofString "_law_day_due"), .glo (Str.ofString "_law_moment_refused"), .glo (Str.ofString "_law_bounds"), .glo (Str.ofString "_law_bounds_due"), .glo (Str.ofString "_law_moment"), .glo (Str.ofString "_law_right"), .free (Str.ofString "min"), .free (Str.ofString "max"), .glo (Str.ofString "law"), .mkr (Str.ofString "Days"), .meth (Str.ofString "Days") (Str.ofString "__eq__"), .meth (Str.ofString "Days") (Str.ofString "number"), .meth (Str.ofString "Days") (Str.ofString "position"), .meth (Str.ofString "Days") (Str.ofString "bounds"), .exm (Str.ofString "BadDay") (Str.ofString "BadDay") true, .exm (Str.ofString "BadMoment") (Str.ofString "BadDay") false, .exm (Str.ofString "TooFar") (Str.ofString "BadDay") false, .exm (Str.ofString "BadDay") (Str.ofString "BadMoment") false, .exm (Str.ofString "BadMoment") (Str.ofString "BadMoment") true, .exm (Str.ofString "TooFar") (Str.ofString "BadMoment") false, .exm (Str.ofString "BadDay") (Str.ofString "TooFar") false, .exm (Str.ofString "BadMoment") (Str.ofString "TooFar") false, .exm (Str.ofString "TooFar") (Str.ofString "TooFar") true]
def fn : List He.DefD := [df_BadMoment___init, df_BadDay___init, df_TooFar___init, df_is_integer, df_is_near, df_is_moment, df_checked_edge, df_Days___init, df_Days___eq, df_Days_number, df_Days_position, df_Days_bounds, df_law_bag, df_law_take, df_law_of, df_law_number, df_law_is_strict, df_law_is_near, df_law_days, df_law_is_whole, df_law_day_refused, df_law_day_due, df_law_moment_refused, df_law_bounds, df_law_bounds_due, df_law_moment, df_law_right, df_law]
def fx : List Fx := [.raw (oxF "BadMoment" .ve), .raw (viF .ve), .raw (oxF "BadDay" .ve), .raw (oxF "TooFar" .oe), .raw (viF .oe), .con "MOST" (.int 1000000000000000000000000000000), .con "FIRST" (.int (-10000000000000000000000000000000)), .con "LAST" (.int 10000000000000000000000000000000), .con "LONGEST" (.int 1000000), .con "Days" (.cls "Days"), .raw (fun K => xfB K (cad K "BadDay")), .raw (fun K => xfB K (cad K "BadMoment")), .raw (fun K => xfB K (cad K "TooFar")), .ccon "Days" "MOST" (.int 400), .raw (ccF "Days" "MOST" (.int 400)), .raw (eqF "Days" nf), .kit (.b "NoneType") (.b "int") false, .kit (.b "NoneType") (.b "bool") false, .kit (.b "NoneType") (.b "str") false, .kit (.b "NoneType") (.b "tuple") false, .kit (.b "NoneType") (.b "list") false, .kit (.b "bool") (.b "int") true, .kit (.b "bool") (.b "bool") true, .kit (.b "bool") (.b "str") false, .kit (.b "bool") (.b "tuple") false, .kit (.b "bool") (.b "list") false, .kit (.b "int") (.b "int") true, .kit (.b "int") (.b "bool") false, .kit (.b "int") (.b "str") false, .kit (.b "int") (.b "tuple") false, .kit (.b "int") (.b "list") false, .kit (.b "str") (.b "int") false, .kit (.b "str") (.b "bool") false, .kit (.b "str") (.b "str") true, .kit (.b "str") (.b "tuple") false, .kit (.b "str") (.b "list") false, .kit (.b "tuple") (.b "int") false, .kit (.b "tuple") (.b "bool") false, .kit (.b "tuple") (.b "str") false, .kit (.b "tuple") (.b "tuple") true, .kit (.b "tuple") (.b "list") false, .kit (.b "list") (.b "int") false, .kit (.b "list") (.b "bool") false, .kit (.b "list") (.b "str") false, .kit (.b "list") (.b "tuple") false, .kit (.b "list") (.b "list") true, .kit (.b "NoneType") (.o "Days") false, .kit (.b "bool") (.o "Days") false, .kit (.b "int") (.o "Days") false, .kit (.b "str") (.o "Days") false, .kit (.b "tuple") (.o "Days") false, .kit (.b "list") (.o "Days") false, .kit (.o "Days") (.o "Days") true, .insT "Days"]
variable {P : Program} {w : World} {K : PySem.W.Frag} {mg : Str → Option Value} {base h : Heap}
theorem kitT (KX : K.In h) (G : h.Ns mainGlobals mg) (c : SaysF fa fn fx K) : KitT K kt ins := by
  refine ⟨fun r hr => ?_, fun C hC => ?_⟩
  · unfold kt at hr
    simp only [List.mem_cons, List.not_mem_nil, or_false] at hr
    rcases hr with rfl | rfl | rfl | rfl | rfl | rfl | rfl | rfl | rfl | rfl | rfl | rfl | rfl | rfl | rfl | rfl | rfl | rfl | rfl | rfl | rfl | rfl | rfl | rfl | rfl | rfl | rfl | rfl | rfl | rfl | rfl | rfl | rfl | rfl | rfl | rfl | rfl
    · exact kit_ok (c.get 16 rfl)
    · exact kit_ok (c.get 17 rfl)
    · exact kit_ok (c.get 18 rfl)
    · exact kit_ok (c.get 19 rfl)
    · exact kit_ok (c.get 20 rfl)
    · exact kit_ok (c.get 21 rfl)
    · exact kit_ok (c.get 22 rfl)
    · exact kit_ok (c.get 23 rfl)
    · exact kit_ok (c.get 24 rfl)
    · exact kit_ok (c.get 25 rfl)
    · exact kit_ok (c.get 26 rfl)
    · exact kit_ok (c.get 27 rfl)
    · exact kit_ok (c.get 28 rfl)
    · exact kit_ok (c.get 29 rfl)
    · exact kit_ok (c.get 30 rfl)
    · exact kit_ok (c.get 31 rfl)
    · exact kit_ok (c.get 32 rfl)
    · exact kit_ok (c.get 33 rfl)
    · exact kit_ok (c.get 34 rfl)
    · exact kit_ok (c.get 35 rfl)
    · exact kit_ok (c.get 36 rfl)
    · exact kit_ok (c.get 37 rfl)
    · exact kit_ok (c.get 38 rfl)
    · exact kit_ok (c.get 39 rfl)
    · exact kit_ok (c.get 40 rfl)
    · exact kit_ok (c.get 41 rfl)
    · exact kit_ok (c.get 42 rfl)
    · exact kit_ok (c.get 43 rfl)
    · exact kit_ok (c.get 44 rfl)
    · exact kit_ok (c.get 45 rfl)
    · exact kit_ok (c.get 46 rfl)
    · exact kit_ok (c.get 47 rfl)
    · exact kit_ok (c.get 48 rfl)
    · exact kit_ok (c.get 49 rfl)
    · exact kit_ok (c.get 50 rfl)
    · exact kit_ok (c.get 51 rfl)
    · exact kit_ok (c.get 52 rfl)
  · unfold ins at hC
    simp only [List.mem_cons, List.not_mem_nil, or_false] at hC
    rcases hC with rfl
    · exact insT_ok (c.get 53 rfl)
theorem xtOk (KX : K.In h) (G : h.Ns mainGlobals mg) (c : SaysF fa fn fx K) : XtOk K xt := by
  unfold XtOk xt
  exact (all_cons (He.exm_ok (c.d.fact 52 rfl)) (all_cons (He.exm_ok (c.d.fact 53 rfl)) (all_cons (He.exm_ok (c.d.fact 54 rfl)) (all_cons (He.exm_ok (c.d.fact 55 rfl)) (all_cons (He.exm_ok (c.d.fact 56 rfl)) (all_cons (He.exm_ok (c.d.fact 57 rfl)) (all_cons (He.exm_ok (c.d.fact 58 rfl)) (all_cons (He.exm_ok (c.d.fact 59 rfl)) (all_cons (He.exm_ok (c.d.fact 60 rfl)) all_nil)))))))))
theorem xs_BadMoment (KX : K.In h) (G : h.Ns mainGlobals mg) (c : SaysF fa fn fx K) : XSite P w K mg base "BadMoment" "moment" 1 := by
  obtain ⟨fd, F⟩ := c.d.def_ 0 (d := df_BadMoment___init) rfl
  exact xsite_mk F (oxF_ok (c.get 0 rfl)) (He.meth_ok (c.d.fact 0 rfl)) (init_ok (b := .ve) F so_BadMoment___init (oxF_ok (c.get 0 rfl)) (He.noat_ok (c.d.fact 1 rfl)) rfl v_BadMoment___init_0_self v_BadMoment___init_0_moment (fun _ _ _ _ _ _ => g_BadMoment___init_0_ValueError) (He.free_ok KX G (c.d.fact 2 rfl)) (viF_ok (c.get 1 rfl)) (fun _ => rfl) rfl) (He.glo_ok KX G (c.d.fact 3 rfl)) (fun _ _ _ _ _ _ us hl => match us, hl with | [_, _], _ => rfl)
theorem xs_BadDay (KX : K.In h) (G : h.Ns mainGlobals mg) (c : SaysF fa fn fx K) : XSite P w K mg base "BadDay" "day" 1 := by
  obtain ⟨fd, F⟩ := c.d.def_ 1 (d := df_BadDay___init) rfl
  exact xsite_mk F (oxF_ok (c.get 2 rfl)) (He.meth_ok (c.d.fact 4 rfl)) (init_ok (b := .ve) F so_BadDay___init (oxF_ok (c.get 2 rfl)) (He.noat_ok (c.d.fact 5 rfl)) rfl v_BadDay___init_0_self v_BadDay___init_0_day (fun _ _ _ _ _ _ => g_BadDay___init_0_ValueError) (He.free_ok KX G (c.d.fact 2 rfl)) (viF_ok (c.get 1 rfl)) (fun _ => rfl) rfl) (He.glo_ok KX G (c.d.fact 6 rfl)) (fun _ _ _ _ _ _ us hl => match us, hl with | [_, _], _ => rfl)
theorem xs_TooFar (KX : K.In h) (G : h.Ns mainGlobals mg) (c : SaysF fa fn fx K) : XSite P w K mg base "TooFar" "edge" 1 := by
  obtain ⟨fd, F⟩ := c.d.def_ 2 (d := df_TooFar___init) rfl
  exact xsite_mk F (oxF_ok (c.get 3 rfl)) (He.meth_ok (c.d.fact 7 rfl)) (init_ok (b := .oe) F so_TooFar___init (oxF_ok (c.get 3 rfl)) (He.noat_ok (c.d.fact 8 rfl)) rfl v_TooFar___init_0_self v_TooFar___init_0_edge (fun _ _ _ _ _ _ => g_TooFar___init_0_OverflowError) (He.free_ok KX G (c.d.fact 9 rfl)) (viF_ok (c.get 4 rfl)) (fun _ => rfl) rfl) (He.glo_ok KX G (c.d.fact 10 rfl)) (fun _ _ _ _ _ _ us hl => match us, hl with | [_, _], _ => rfl)
theorem e_is_integer (KX : K.In h) (G : h.Ns mainGlobals mg) (c : SaysF fa fn fx K) : Core P w K mg base (He.fAd K ((Str.ofString "is_integer"), none)) (Str.ofString "is_integer") (Str.ofString "is_integer") (defArgs s_is_integer) (defBody s_is_integer) sc_is_integer (df_is_integer.dvs K) (df_is_integer.kws K) 1 P_is_integer m_is_integer := by
  obtain ⟨fd, F⟩ := c.d.def_ 3 (d := df_is_integer) rfl
  refine core_mk (N := N_is_integer) (ps := P_is_integer) F so_is_integer fun cdv A outer s H E hr => ?_
  have tk : Takes (cxOf (L2.CX P w) P w K mg base N_is_integer (Str.ofString "is_integer") sc_is_integer (He.fAd K ((Str.ofString "is_integer"), none)) cdv A outer s H E) (wDef E) := takes_of rfl rfl rfl rfl
  exact (sb_one (ss_ret (se_and (se_callB (cs_isi (kitT KX G c)) (He.free_ok KX G (c.d.fact 12 rfl)) g_is_integer_0_isinstance (by decide +kernel) (sa_cons (se_var 0 n_is_integer_thing v_is_integer_0_thing) (sa_cons (se_ty (He.free_ok KX G (c.d.fact 11 rfl)) g_is_integer_0_int (by decide +kernel)) sa_nil))) (se_one (se_not (se_callB (cs_isi (kitT KX G c)) (He.free_ok KX G (c.d.fact 12 rfl)) g_is_integer_0_isinstance (by decide +kernel) (sa_cons (se_var 0 n_is_integer_thing v_is_integer_0_thing) (sa_cons (se_ty (He.free_ok KX G (c.d.fact 13 rfl)) g_is_integer_0_bool (by decide +kernel)) sa_nil))))))))
theorem d_is_integer (KX : K.In h) (G : h.Ns mainGlobals mg) (c : SaysF fa fn fx K) : Dfn P w K mg base "is_integer" 1 m_is_integer [] := dfn_core (e_is_integer KX G c) (He.glo_ok KX G (c.d.fact 14 rfl)) (fun _ _ _ _ _ _ us hl => match us, hl with | [_], _ => rfl)
theorem e_is_near (KX : K.In h) (G : h.Ns mainGlobals mg) (c : SaysF fa fn fx K) : Core P w K mg base (He.fAd K ((Str.ofString "is_near"), none)) (Str.ofString "is_near") (Str.ofString "is_near") (defArgs s_is_near) (defBody s_is_near) sc_is_near (df_is_near.dvs K) (df_is_near.kws K) 1 P_is_near m_is_near := by
  obtain ⟨fd, F⟩ := c.d.def_ 4 (d := df_is_near) rfl
  refine core_mk (N := N_is_near) (ps := P_is_near) F so_is_near fun cdv A outer s H E hr => ?_
  have tk : Takes (cxOf (L2.CX P w) P w K mg base N_is_near (Str.ofString "is_near") sc_is_near (He.fAd K ((Str.ofString "is_near"), none)) cdv A outer s H E) (wDef E) := takes_of rfl rfl rfl rfl
  exact (sb_one (ss_ret (se_chain os_le os_le (se_un us_neg (se_glob (glb_con KX G (c.get 5 rfl)) g_is_near_0_MOST)) (se_var 0 n_is_near_number v_is_near_0_number) (se_glob (glb_con KX G (c.get 5 rfl)) g_is_near_0_MOST) (by with_unfolding_all rfl))))
theorem d_is_near (KX : K.In h) (G : h.Ns mainGlobals mg) (c : SaysF fa fn fx K) : Dfn P w K mg base "is_near" 1 m_is_near [] := dfn_core (e_is_near KX G c) (He.glo_ok KX G (c.d.fact 15 rfl)) (fun _ _ _ _ _ _ us hl => match us, hl with | [_], _ => rfl)
theorem e_is_moment (KX : K.In h) (G : h.Ns mainGlobals mg) (c : SaysF fa fn fx K) : Core P w K mg base (He.fAd K ((Str.ofString "is_moment"), none)) (Str.ofString "is_moment") (Str.ofString "is_moment") (defArgs s_is_moment) (defBody s_is_moment) sc_is_moment (df_is_moment.dvs K) (df_is_moment.kws K) 2 P_is_moment m_is_moment := by
  obtain ⟨fd, F⟩ := c.d.def_ 5 (d := df_is_moment) rfl
  refine core_mk (N := N_is_moment) (ps := P_is_moment) F so_is_moment fun cdv A outer s H E hr => ?_
  have tk : Takes (cxOf (L2.CX P w) P w K mg base N_is_moment (Str.ofString "is_moment") sc_is_moment (He.fAd K ((Str.ofString "is_moment"), none)) cdv A outer s H E) (wDef E) := takes_of rfl rfl rfl rfl
  exact (sb_one (ss_ret (se_and (se_call (d_is_integer KX G c) (hr.mono (by omega)) tk g_is_moment_0_is_integer (sr_var 0 n_is_moment_thing v_is_moment_0_thing sr_nil)) (se_one (se_chain os_lt os_lt (se_glob (glb_con KX G (c.get 6 rfl)) g_is_moment_0_FIRST) (se_var 0 n_is_moment_thing v_is_moment_0_thing) (se_glob (glb_con KX G (c.get 7 rfl)) g_is_moment_0_LAST) (by with_unfolding_all rfl))))))
theorem d_is_moment (KX : K.In h) (G : h.Ns mainGlobals mg) (c : SaysF fa fn fx K) : Dfn P w K mg base "is_moment" 2 m_is_moment [] := dfn_core (e_is_moment KX G c) (He.glo_ok KX G (c.d.fact 16 rfl)) (fun _ _ _ _ _ _ us hl => match us, hl with | [_], _ => rfl)
theorem e_checked_edge (KX : K.In h) (G : h.Ns mainGlobals mg) (c : SaysF fa fn fx K) : Core P w K mg base (He.fAd K ((Str.ofString "checked_edge"), none)) (Str.ofString "checked_edge") (Str.ofString "checked_edge") (defArgs s_checked_edge) (defBody s_checked_edge) sc_checked_edge (df_checked_edge.dvs K) (df_checked_edge.kws K) 3 P_checked_edge m_checked_edge := by
  obtain ⟨fd, F⟩ := c.d.def_ 6 (d := df_checked_edge) rfl
  refine core_mk (N := N_checked_edge) (ps := P_checked_edge) F so_checked_edge fun cdv A outer s H E hr => ?_
  have tk : Takes (cxOf (L2.CX P w) P w K mg base N_checked_edge (Str.ofString "checked_edge") sc_checked_edge (He.fAd K ((Str.ofString "checked_edge"), none)) cdv A outer s H E) (wDef E) := takes_of rfl rfl rfl rfl
  exact (sb_cons (ss_if (st_not (st_tru (se_call (d_is_near KX G c) (hr.mono (by omega)) tk g_checked_edge_0_is_near (sr_var 0 n_checked_edge_edge v_checked_edge_0_edge sr_nil)))) (sb_one (ss_raise (xs_TooFar KX G c) (hr.mono (by omega)) rfl tk g_checked_edge_0_TooFar (se_var 0 n_checked_edge_edge v_checked_edge_0_edge))) sb_nil) (sb_one (ss_retV 0 n_checked_edge_edge v_checked_edge_0_edge)))
theorem d_checked_edge (KX : K.In h) (G : h.Ns mainGlobals mg) (c : SaysF fa fn fx K) : Dfn P w K mg base "checked_edge" 3 m_checked_edge [] := dfn_core (e_checked_edge KX G c) (He.glo_ok KX G (c.d.fact 17 rfl)) (fun _ _ _ _ _ _ us hl => match us, hl with | [_], _ => rfl)
theorem e_Days___init (KX : K.In h) (G : h.Ns mainGlobals mg) (c : SaysF fa fn fx K) : Core P w K mg base (He.fAd K ((Str.ofString "Days"), some (Str.ofString "__init__"))) (Str.ofString "__init__") (Str.ofString "Days.__init__") (defArgs s_Days___init) (defBody s_Days___init) sc_Days___init (df_Days___init.dvs K) (df_Days___init.kws K) 3 P_Days___init m_Days___init := by
  obtain ⟨fd, F⟩ := c.d.def_ 7 (d := df_Days___init) rfl
  refine core_mk (N := N_Days___init) (ps := P_Days___init) F so_Days___init fun cdv A outer s H E hr => ?_
  have tk : Takes (cxOf (L2.CX P w) P w K mg base N_Days___init (Str.ofString "Days.__init__") sc_Days___init (He.fAd K ((Str.ofString "Days"), some (Str.ofString "__init__"))) cdv A outer s H E) (wDef E) := takes_of rfl rfl rfl rfl
  exact (sb_cons (ss_if (st_w (stw_or (st_not (st_tru (se_call (d_is_integer KX G c) (hr.mono (by omega)) tk g_Days___init_0_is_integer (sr_var 1 n_Days___init_length v_Days___init_0_length sr_nil)))) (stw_or1 (st_not (st_chain os_le os_le se_int (se_var 1 n_Days___init_length v_Days___init_0_length) (se_glob (glb_con KX G (c.get 8 rfl)) g_Days___init_0_LONGEST) (by with_unfolding_all rfl)))))) (sb_one (ss_raise (xs_BadDay KX G c) (hr.mono (by omega)) rfl tk g_Days___init_0_BadDay (se_var 1 n_Days___init_length v_Days___init_0_length))) sb_nil) (sb_cons (ss_if (st_w (stw_or (st_not (st_tru (se_call (d_is_integer KX G c) (hr.mono (by omega)) tk g_Days___init_0_is_integer (sr_var 2 n_Days___init_offset v_Days___init_0_offset sr_nil)))) (stw_or1 (st_not (st_chain os_le os_lt se_int (se_var 2 n_Days___init_offset v_Days___init_0_offset) (se_var 1 n_Days___init_length v_Days___init_0_length) (by with_unfolding_all rfl)))))) (sb_one (ss_raise (xs_BadDay KX G c) (hr.mono (by omega)) rfl tk g_Days___init_0_BadDay (se_var 2 n_Days___init_offset v_Days___init_0_offset))) sb_nil) (sb_cons (ss_put 0 (at_cons (He.cls_ok (c.d.fact 18 rfl)) (He.noat_ok (c.d.fact 19 rfl)) at_nil) n_Days___init_self v_Days___init_0_self (se_var 1 n_Days___init_length v_Days___init_0_length)) (sb_one (ss_put 0 (at_cons (He.cls_ok (c.d.fact 18 rfl)) (He.noat_ok (c.d.fact 20 rfl)) at_nil) n_Days___init_self v_Days___init_0_self (se_var 2 n_Days___init_offset v_Days___init_0_offset))))))
theorem si_Days___init_2_offset (KX : K.In h) (G : h.Ns mainGlobals mg) (c : SaysF fa fn fx K) : Site P w K mg base (He.fAd K ((Str.ofString "Days"), some (Str.ofString "__init__"))) 3 2 [(Str.ofString "offset")] m_Days___init [.inl 0, .inl 1, .inl 2] := by
  obtain ⟨fd, F, W⟩ := e_Days___init KX G c
  obtain ⟨its, mv, hb⟩ := F.kbinds (ps := P_Days___init) 2 [(Str.ofString "offset")] [] (fun us its mv ws => us ++ (ws)) (fun z => by cases z) (fun z => by cases z) (fun q hq => by cases hq) (fun r1 r2 r3 r4 => (r1.append r4)) (fun T D doc pm an cdv ct us its mv ws h1 h2 h3 h4 => match us, its, mv, ws, h1, h2, h3, h4 with | [u0, u1], [d0], [], [w0], _, _, _, _ => ⟨_, rfl, rfl⟩)
  exact ⟨fd, P_Days___init, [.inl 0, .inl 1, .inl 2], W, Bd.of_kbn hb (fun vs zs l1 l2 => match vs, zs, l1, l2 with | [u0, u1], [w0], _, _ => rfl), (.cons (show _ = _ from rfl) (.cons (show _ = _ from rfl) (.cons (show _ = _ from rfl) .nil)))⟩
theorem cs_Days___init_2_offset (KX : K.In h) (G : h.Ns mainGlobals mg) (c : SaysF fa fn fx K) : CSite P w K mg base "Days" 3 1 [(Str.ofString "offset")] m_Days___init [.inl 0, .inl 1, .inl 2] := ⟨_, He.mkr_ok (c.d.fact 47 rfl), si_Days___init_2_offset KX G c⟩
theorem si_Days___init_2 (KX : K.In h) (G : h.Ns mainGlobals mg) (c : SaysF fa fn fx K) : Site P w K mg base (He.fAd K ((Str.ofString "Days"), some (Str.ofString "__init__"))) 3 2 [] m_Days___init [.inl 0, .inl 1, .inr (.int 0)] := by
  obtain ⟨fd, F, W⟩ := e_Days___init KX G c
  obtain ⟨ds, hd, hb⟩ := F.binds (ps := P_Days___init) 2 1 (fun z => by cases z) rfl (fun T D doc pm an cdv ct us its ks h1 h2 h3 => match us, its, ks, h1, h2, h3 with | [u0, u1], [d0], [k0], _, _, _ => ⟨_, rfl, ⟨_, _, _, _, _, _, rfl, rfl, rfl⟩⟩) (fun z => by cases z)
  exact ⟨fd, P_Days___init, [.inl 0, .inl 1, .inr (.int 0)], W, Bd.of_binds hb hd rfl (fun vs l => match vs, l with | [u0, u1], _ => rfl), (.cons (show _ = _ from rfl) (.cons (show _ = _ from rfl) (.cons (show R K (fun _ => none) (.int 0) _ from (R_int.mpr rfl)) .nil)))⟩
theorem cs_Days___init_2 (KX : K.In h) (G : h.Ns mainGlobals mg) (c : SaysF fa fn fx K) : CSite P w K mg base "Days" 3 1 [] m_Days___init [.inl 0, .inl 1, .inr (.int 0)] := ⟨_, He.mkr_ok (c.d.fact 47 rfl), si_Days___init_2 KX G c⟩
theorem si_Days___init_1 (KX : K.In h) (G : h.Ns mainGlobals mg) (c : SaysF fa fn fx K) : Site P w K mg base (He.fAd K ((Str.ofString "Days"), some (Str.ofString "__init__"))) 3 1 [] m_Days___init [.inl 0, .inr (.int 1440), .inr (.int 0)] := by
  obtain ⟨fd, F, W⟩ := e_Days___init KX G c
  obtain ⟨ds, hd, hb⟩ := F.binds (ps := P_Days___init) 1 0 (fun z => by cases z) rfl (fun T D doc pm an cdv ct us its ks h1 h2 h3 => match us, its, ks, h1, h2, h3 with | [u0], [d0], [k0], _, _, _ => ⟨_, rfl, ⟨_, _, _, _, _, _, rfl, rfl, rfl⟩⟩) (fun z => by cases z)
  exact ⟨fd, P_Days___init, [.inl 0, .inr (.int 1440), .inr (.int 0)], W, Bd.of_binds hb hd rfl (fun vs l => match vs, l with | [u0], _ => rfl), (.cons (show _ = _ from rfl) (.cons (show R K (fun _ => none) (.int 1440) _ from (R_int.mpr rfl)) (.cons (show R K (fun _ => none) (.int 0) _ from (R_int.mpr rfl)) .nil)))⟩
theorem cs_Days___init_1 (KX : K.In h) (G : h.Ns mainGlobals mg) (c : SaysF fa fn fx K) : CSite P w K mg base "Days" 3 0 [] m_Days___init [.inl 0, .inr (.int 1440), .inr (.int 0)] := ⟨_, He.mkr_ok (c.d.fact 47 rfl), si_Days___init_1 KX G c⟩
theorem e_Days___eq (KX : K.In h) (G : h.Ns mainGlobals mg) (c : SaysF fa fn fx K) : Core P w K mg base (He.fAd K ((Str.ofString "Days"), some (Str.ofString "__eq__"))) (Str.ofString "__eq__") (Str.ofString "Days.__eq__") (defArgs s_Days___eq) (defBody s_Days___eq) sc_Days___eq (df_Days___eq.dvs K) (df_Days___eq.kws K) 1 P_Days___eq m_Days___eq := by
  obtain ⟨fd, F⟩ := c.d.def_ 8 (d := df_Days___eq) rfl
  refine core_mk (N := N_Days___eq) (ps := P_Days___eq) F so_Days___eq fun cdv A outer s H E hr => ?_
  have tk : Takes (cxOf (L2.CX P w) P w K mg base N_Days___eq (Str.ofString "Days.__eq__") sc_Days___eq (He.fAd K ((Str.ofString "Days"), some (Str.ofString "__eq__"))) cdv A outer s H E) (wDef E) := takes_of rfl rfl rfl rfl
  exact (sb_one (ss_ret (se_and (se_callB (cs_isi (kitT KX G c)) (He.free_ok KX G (c.d.fact 12 rfl)) g_Days___eq_0_isinstance (by decide +kernel) (sa_cons (se_var 1 n_Days___eq_other v_Days___eq_0_other) (sa_cons (se_glob (glb_con KX G (c.get 9 rfl)) g_Days___eq_0_Days) sa_nil))) (se_and (se_cmp (os_eq hr.units) (se_fld (at_cons (He.cls_ok (c.d.fact 18 rfl)) (He.noat_ok (c.d.fact 19 rfl)) at_nil) (so_var 0 n_Days___eq_self v_Days___eq_0_self)) (se_fld (at_cons (He.cls_ok (c.d.fact 18 rfl)) (He.noat_ok (c.d.fact 19 rfl)) at_nil) (so_var 1 n_Days___eq_other v_Days___eq_0_other)) (nomark _)) (se_one (se_cmp (os_eq hr.units) (se_fld (at_cons (He.cls_ok (c.d.fact 18 rfl)) (He.noat_ok (c.d.fact 20 rfl)) at_nil) (so_var 0 n_Days___eq_self v_Days___eq_0_self)) (se_fld (at_cons (He.cls_ok (c.d.fact 18 rfl)) (He.noat_ok (c.d.fact 20 rfl)) at_nil) (so_var 1 n_Days___eq_other v_Days___eq_0_other)) (nomark _)))))))
theorem si_Days___eq_2 (KX : K.In h) (G : h.Ns mainGlobals mg) (c : SaysF fa fn fx K) : Site P w K mg base (He.fAd K ((Str.ofString "Days"), some (Str.ofString "__eq__"))) 1 2 [] m_Days___eq (ids 2) := by
  exact site_all (e_Days___eq KX G c) rfl (fun _ _ _ _ _ _ us hl => match us, hl with | [_, _], _ => rfl)
theorem ms_Days___eq_2 (KX : K.In h) (G : h.Ns mainGlobals mg) (c : SaysF fa fn fx K) : MSite P w K mg base "__eq__" 1 1 [] ⟨"Days", m_Days___eq, (ids 2)⟩ := ⟨_, He.cls_ok (c.d.fact 18 rfl), He.meth_ok (c.d.fact 48 rfl), si_Days___eq_2 KX G c⟩
theorem es_Days___eq (KX : K.In h) (G : h.Ns mainGlobals mg) (c : SaysF fa fn fx K) : ESite P w K mg base 1 nf ⟨"Days", m_Days___eq⟩ := by
  obtain ⟨q1, q2, q3⟩ := eqF_ok (c.get 15 rfl)
  exact ⟨_, si_Days___eq_2 KX G c, (He.meth_ok (c.d.fact 48 rfl)).at_, (He.meth_ok (c.d.fact 48 rfl)).fn, q1, q2, q3⟩
theorem e_Days_number (KX : K.In h) (G : h.Ns mainGlobals mg) (c : SaysF fa fn fx K) : Core P w K mg base (He.fAd K ((Str.ofString "Days"), some (Str.ofString "number"))) (Str.ofString "number") (Str.ofString "Days.number") (defArgs s_Days_number) (defBody s_Days_number) sc_Days_number (df_Days_number.dvs K) (df_Days_number.kws K) 3 P_Days_number m_Days_number := by
  obtain ⟨fd, F⟩ := c.d.def_ 9 (d := df_Days_number) rfl
  refine core_mk (N := N_Days_number) (ps := P_Days_number) F so_Days_number fun cdv A outer s H E hr => ?_
  have tk : Takes (cxOf (L2.CX P w) P w K mg base N_Days_number (Str.ofString "Days.number") sc_Days_number (He.fAd K ((Str.ofString "Days"), some (Str.ofString "number"))) cdv A outer s H E) (wDef E) := takes_of rfl rfl rfl rfl
  exact (sb_cons (ss_if (st_not (st_tru (se_call (d_is_moment KX G c) (hr.mono (by omega)) tk g_Days_number_0_is_moment (sr_var 1 n_Days_number_moment v_Days_number_0_moment sr_nil)))) (sb_one (ss_raise (xs_BadMoment KX G c) (hr.mono (by omega)) rfl tk g_Days_number_0_BadMoment (se_var 1 n_Days_number_moment v_Days_number_0_moment))) sb_nil) (sb_one (ss_ret (se_op os_fdiv (se_op os_sub (se_var 1 n_Days_number_moment v_Days_number_0_moment) (se_fld (at_cons (He.cls_ok (c.d.fact 18 rfl)) (He.noat_ok (c.d.fact 20 rfl)) at_nil) (so_var 0 n_Days_number_self v_Days_number_0_self))) (se_fld (at_cons (He.cls_ok (c.d.fact 18 rfl)) (He.noat_ok (c.d.fact 19 rfl)) at_nil) (so_var 0 n_Days_number_self v_Days_number_0_self))))))
theorem si_Days_number_2 (KX : K.In h) (G : h.Ns mainGlobals mg) (c : SaysF fa fn fx K) : Site P w K mg base (He.fAd K ((Str.ofString "Days"), some (Str.ofString "number"))) 3 2 [] m_Days_number (ids 2) := by
  exact site_all (e_Days_number KX G c) rfl (fun _ _ _ _ _ _ us hl => match us, hl with | [_, _], _ => rfl)
theorem ms_Days_number_2 (KX : K.In h) (G : h.Ns mainGlobals mg) (c : SaysF fa fn fx K) : MSite P w K mg base "number" 3 1 [] ⟨"Days", m_Days_number, (ids 2)⟩ := ⟨_, He.cls_ok (c.d.fact 18 rfl), He.meth_ok (c.d.fact 49 rfl), si_Days_number_2 KX G c⟩
theorem e_Days_position (KX : K.In h) (G : h.Ns mainGlobals mg) (c : SaysF fa fn fx K) : Core P w K mg base (He.fAd K ((Str.ofString "Days"), some (Str.ofString "position"))) (Str.ofString "position") (Str.ofString "Days.position") (defArgs s_Days_position) (defBody s_Days_position) sc_Days_position (df_Days_position.dvs K) (df_Days_position.kws K) 4 P_Days_position m_Days_position := by
  obtain ⟨fd, F⟩ := c.d.def_ 10 (d := df_Days_position) rfl
  refine core_mk (N := N_Days_position) (ps := P_Days_position) F so_Days_position fun cdv A outer s H E hr => ?_
  have tk : Takes (cxOf (L2.CX P w) P w K mg base N_Days_position (Str.ofString "Days.position") sc_Days_position (He.fAd K ((Str.ofString "Days"), some (Str.ofString "position"))) cdv A outer s H E) (wDef E) := takes_of rfl rfl rfl rfl
  exact (sb_cons (ss_set 2 nd_Days_position n_Days_position_number l_Days_position_0_number (Or.inl rfl) (se_meth (k := 3) (so_var 0 n_Days_position_self v_Days_position_0_self) (all_cons ((ms_Days_number_2 KX G c).mono (by omega)) all_nil) (hr.mono (by omega)) tk (sc_pos 1 (sr_var 1 n_Days_position_moment v_Days_position_0_moment sr_nil)))) (sb_one (ss_ret (se_op os_sub (se_op os_sub (se_var 1 n_Days_position_moment v_Days_position_0_moment) (se_fld (at_cons (He.cls_ok (c.d.fact 18 rfl)) (He.noat_ok (c.d.fact 20 rfl)) at_nil) (so_var 0 n_Days_position_self v_Days_position_0_self))) (se_op os_mulI (se_var 2 n_Days_position_number v_Days_position_0_number) (se_fld (at_cons (He.cls_ok (c.d.fact 18 rfl)) (He.noat_ok (c.d.fact 19 rfl)) at_nil) (so_var 0 n_Days_position_self v_Days_position_0_self)))))))
theorem si_Days_position_2 (KX : K.In h) (G : h.Ns mainGlobals mg) (c : SaysF fa fn fx K) : Site P w K mg base (He.fAd K ((Str.ofString "Days"), some (Str.ofString "position"))) 4 2 [] m_Days_position (ids 2) := by
  exact site_all (e_Days_position KX G c) rfl (fun _ _ _ _ _ _ us hl => match us, hl with | [_, _], _ => rfl)
theorem ms_Days_position_2 (KX : K.In h) (G : h.Ns mainGlobals mg) (c : SaysF fa fn fx K) : MSite P w K mg base "position" 4 1 [] ⟨"Days", m_Days_position, (ids 2)⟩ := ⟨_, He.cls_ok (c.d.fact 18 rfl), He.meth_ok (c.d.fact 50 rfl), si_Days_position_2 KX G c⟩
theorem e_Days_bounds (KX : K.In h) (G : h.Ns mainGlobals mg) (c : SaysF fa fn fx K) : Core P w K mg base (He.fAd K ((Str.ofString "Days"), some (Str.ofString "bounds"))) (Str.ofString "bounds") (Str.ofString "Days.bounds") (defArgs s_Days_bounds) (defBody s_Days_bounds) sc_Days_bounds (df_Days_bounds.dvs K) (df_Days_bounds.kws K) 4 P_Days_bounds m_Days_bounds := by
  obtain ⟨fd, F⟩ := c.d.def_ 11 (d := df_Days_bounds) rfl
  refine core_mk (N := N_Days_bounds) (ps := P_Days_bounds) F so_Days_bounds fun cdv A outer s H E hr => ?_
  have tk : Takes (cxOf (L2.CX P w) P w K mg base N_Days_bounds (Str.ofString "Days.bounds") sc_Days_bounds (He.fAd K ((Str.ofString "Days"), some (Str.ofString "bounds"))) cdv A outer s H E) (wDef E) := takes_of rfl rfl rfl rfl
  exact (sb_cons (ss_set 2 nd_Days_bounds n_Days_bounds_begin l_Days_bounds_0_begin (Or.inl rfl) (se_op os_add (se_fld (at_cons (He.cls_ok (c.d.fact 18 rfl)) (He.noat_ok (c.d.fact 20 rfl)) at_nil) (so_var 0 n_Days_bounds_self v_Days_bounds_0_self)) (se_op os_mulI (se_var 1 n_Days_bounds_number v_Days_bounds_0_number) (se_fld (at_cons (He.cls_ok (c.d.fact 18 rfl)) (He.noat_ok (c.d.fact 19 rfl)) at_nil) (so_var 0 n_Days_bounds_self v_Days_bounds_0_self))))) (sb_one (ss_ret (se_tup (sa_cons (se_call (d_checked_edge KX G c) (hr.mono (by omega)) tk g_Days_bounds_0_checked_edge (sr_var 2 n_Days_bounds_begin v_Days_bounds_0_begin sr_nil)) (sa_cons (se_call (d_checked_edge KX G c) (hr.mono (by omega)) tk g_Days_bounds_0_checked_edge (sr_cons (se_op os_add (se_var 2 n_Days_bounds_begin v_Days_bounds_0_begin) (se_fld (at_cons (He.cls_ok (c.d.fact 18 rfl)) (He.noat_ok (c.d.fact 19 rfl)) at_nil) (so_var 0 n_Days_bounds_self v_Days_bounds_0_self))) sr_nil)) sa_nil))))))
theorem si_Days_bounds_2 (KX : K.In h) (G : h.Ns mainGlobals mg) (c : SaysF fa fn fx K) : Site P w K mg base (He.fAd K ((Str.ofString "Days"), some (Str.ofString "bounds"))) 4 2 [] m_Days_bounds (ids 2) := by
  exact site_all (e_Days_bounds KX G c) rfl (fun _ _ _ _ _ _ us hl => match us, hl with | [_, _], _ => rfl)
theorem ms_Days_bounds_2 (KX : K.In h) (G : h.Ns mainGlobals mg) (c : SaysF fa fn fx K) : MSite P w K mg base "bounds" 4 1 [] ⟨"Days", m_Days_bounds, (ids 2)⟩ := ⟨_, He.cls_ok (c.d.fact 18 rfl), He.meth_ok (c.d.fact 51 rfl), si_Days_bounds_2 KX G c⟩
theorem e_law_bag (KX : K.In h) (G : h.Ns mainGlobals mg) (c : SaysF fa fn fx K) : Core P w K mg base (He.fAd K ((Str.ofString "_law_bag"), none)) (Str.ofString "_law_bag") (Str.ofString "_law_bag") (defArgs s_law_bag) (defBody s_law_bag) sc_law_bag (df_law_bag.dvs K) (df_law_bag.kws K) 1 P_law_bag m_law_bag := by
  obtain ⟨fd, F⟩ := c.d.def_ 12 (d := df_law_bag) rfl
  refine core_mk (N := N_law_bag) (ps := P_law_bag) F so_law_bag fun cdv A outer s H E hr => ?_
  have tk : Takes (cxOf (L2.CX P w) P w K mg base N_law_bag (Str.ofString "_law_bag") sc_law_bag (He.fAd K ((Str.ofString "_law_bag"), none)) cdv A outer s H E) (wDef E) := takes_of rfl rfl rfl rfl
  exact (sb_cons (ss_set 2 nd_law_bag n_law_bag_cell l_law_bag_0_cell (Or.inl rfl) (se_if (st_cmp os_lt (se_var 1 n_law_bag_at v_law_bag_0_at) (se_callBN 0 call_len lenR_ok (He.free_ok KX G (c.d.fact 21 rfl)) g_law_bag_0_len (by decide +kernel) n_law_bag_script v_law_bag_0_script) (nomark _)) (se_ixN 0 n_law_bag_script v_law_bag_0_script (se_var 1 n_law_bag_at v_law_bag_0_at)) se_int)) (sb_cons (ss_set 3 nd_law_bag n_law_bag_digits l_law_bag_0_digits (Or.inl rfl) (se_if (st_cmp os_ge (se_callB cs_abs (He.free_ok KX G (c.d.fact 22 rfl)) g_law_bag_0_abs (by decide +kernel) (sa_cons (se_var 2 n_law_bag_cell v_law_bag_0_cell) sa_nil)) (se_op os_pow se_int se_int) (nomark _)) (se_callB cs_abs (He.free_ok KX G (c.d.fact 22 rfl)) g_law_bag_0_abs (by decide +kernel) (sa_cons (se_var 2 n_law_bag_cell v_law_bag_0_cell) sa_nil)) se_int)) (sb_one (ss_retF (sef_lst (sa_cons (se_var 3 n_law_bag_digits v_law_bag_0_digits) (sa_cons (se_op os_add (se_op os_add (se_op os_mulI (se_op os_mod (se_callTy cs_int1 (He.free_ok KX G (c.d.fact 11 rfl)) g_law_bag_0_int (by decide +kernel) (sa_cons (se_var 2 n_law_bag_cell v_law_bag_0_cell) sa_nil)) se_int) se_int) (se_op os_mulI se_int (se_var 1 n_law_bag_at v_law_bag_0_at))) se_int) (sa_cons se_int sa_nil))))))))
theorem d_law_bag (KX : K.In h) (G : h.Ns mainGlobals mg) (c : SaysF fa fn fx K) : Dfn P w K mg base "_law_bag" 1 m_law_bag [] := dfn_core (e_law_bag KX G c) (He.glo_ok KX G (c.d.fact 23 rfl)) (fun _ _ _ _ _ _ us hl => match us, hl with | [_, _], _ => rfl)
theorem e_law_take (KX : K.In h) (G : h.Ns mainGlobals mg) (c : SaysF fa fn fx K) : Core P w K mg base (He.fAd K ((Str.ofString "_law_take"), none)) (Str.ofString "_law_take") (Str.ofString "_law_take") (defArgs s_law_take) (defBody s_law_take) sc_law_take (df_law_take.dvs K) (df_law_take.kws K) 1 P_law_take m_law_take := by
  obtain ⟨fd, F⟩ := c.d.def_ 13 (d := df_law_take) rfl
  refine core_mk (N := N_law_take) (ps := P_law_take) F so_law_take fun cdv A outer s H E hr => ?_
  have tk : Takes (cxOf (L2.CX P w) P w K mg base N_law_take (Str.ofString "_law_take") sc_law_take (He.fAd K ((Str.ofString "_law_take"), none)) cdv A outer s H E) (wDef E) := takes_of rfl rfl rfl rfl
  exact (sb_cons (ss_if (st_cmp os_gt (se_ixN 0 n_law_take_bag v_law_take_0_bag se_int) se_int (nomark _)) (sb_cons (ss_set 2 nd_law_take n_law_take_digit l_law_take_0_digit (Or.inl rfl) (se_op os_mod (se_callTy cs_int1 (He.free_ok KX G (c.d.fact 11 rfl)) g_law_take_0_int (by decide +kernel) (sa_cons (se_ixN 0 n_law_take_bag v_law_take_0_bag se_int) sa_nil)) (se_var 1 n_law_take_many v_law_take_0_many))) (sb_cons (ss_setAt 0 n_law_take_bag v_law_take_0_bag (se_op os_fdiv (se_ixN 0 n_law_take_bag v_law_take_0_bag se_int) (se_var 1 n_law_take_many v_law_take_0_many)) se_int) (sb_one (ss_retV 2 n_law_take_digit v_law_take_0_digit)))) sb_nil) (sb_cons (ss_setAt 0 n_law_take_bag v_law_take_0_bag (se_op os_add (se_ixN 0 n_law_take_bag v_law_take_0_bag se_int) se_int) se_int) (sb_cons (ss_set 3 nd_law_take n_law_take_mixed l_law_take_0_mixed (Or.inl rfl) (se_op os_mod (se_callTy cs_int1 (He.free_ok KX G (c.d.fact 11 rfl)) g_law_take_0_int (by decide +kernel) (sa_cons (se_op os_pow (se_op os_add (se_ixN 0 n_law_take_bag v_law_take_0_bag se_int) (se_op os_mulI se_int (se_ixN 0 n_law_take_bag v_law_take_0_bag se_int))) se_int) sa_nil)) se_int)) (sb_cons (ss_set 3 nd_law_take n_law_take_mixed l_law_take_0_mixed (Or.inl rfl) (se_op os_mod (se_callTy cs_int1 (He.free_ok KX G (c.d.fact 11 rfl)) g_law_take_0_int (by decide +kernel) (sa_cons (se_op os_pow (se_op os_add (se_var 3 n_law_take_mixed v_law_take_0_mixed) (se_op os_mulI se_int (se_ixN 0 n_law_take_bag v_law_take_0_bag se_int))) se_int) sa_nil)) se_int)) (sb_one (ss_ret (se_op os_mod (se_callTy cs_int1 (He.free_ok KX G (c.d.fact 11 rfl)) g_law_take_0_int (by decide +kernel) (sa_cons (se_op os_fdiv (se_var 3 n_law_take_mixed v_law_take_0_mixed) se_int) sa_nil)) (se_var 1 n_law_take_many v_law_take_0_many))))))))
theorem d_law_take (KX : K.In h) (G : h.Ns mainGlobals mg) (c : SaysF fa fn fx K) : Dfn P w K mg base "_law_take" 1 m_law_take [] := dfn_core (e_law_take KX G c) (He.glo_ok KX G (c.d.fact 24 rfl)) (fun _ _ _ _ _ _ us hl => match us, hl with | [_, _], _ => rfl)
theorem e_law_of (KX : K.In h) (G : h.Ns mainGlobals mg) (c : SaysF fa fn fx K) : Core P w K mg base (He.fAd K ((Str.ofString "_law_of"), none)) (Str.ofString "_law_of") (Str.ofString "_law_of") (defArgs s_law_of) (defBody s_law_of) sc_law_of (df_law_of.dvs K) (df_law_of.kws K) 2 P_law_of m_law_of := by
  obtain ⟨fd, F⟩ := c.d.def_ 14 (d := df_law_of) rfl
  refine core_mk (N := N_law_of) (ps := P_law_of) F so_law_of fun cdv A outer s H E hr => ?_
  have tk : Takes (cxOf (L2.CX P w) P w K mg base N_law_of (Str.ofString "_law_of") sc_law_of (He.fAd K ((Str.ofString "_law_of"), none)) cdv A outer s H E) (wDef E) := takes_of rfl rfl rfl rfl
  exact (sb_one (ss_ret (se_ixN 1 n_law_of_some v_law_of_0_some (se_call (d_law_take KX G c) (hr.mono (by omega)) tk g_law_of_0_law_take (sr_var 0 n_law_of_bag v_law_of_0_bag (sr_cons (se_callBN 1 call_len lenR_ok (He.free_ok KX G (c.d.fact 21 rfl)) g_law_of_0_len (by decide +kernel) n_law_of_some v_law_of_0_some) sr_nil))))))
theorem d_law_of (KX : K.In h) (G : h.Ns mainGlobals mg) (c : SaysF fa fn fx K) : Dfn P w K mg base "_law_of" 2 m_law_of [] := dfn_core (e_law_of KX G c) (He.glo_ok KX G (c.d.fact 25 rfl)) (fun _ _ _ _ _ _ us hl => match us, hl with | [_, _], _ => rfl)
theorem e_law_number (KX : K.In h) (G : h.Ns mainGlobals mg) (c : SaysF fa fn fx K) : Core P w K mg base (He.fAd K ((Str.ofString "_law_number"), none)) (Str.ofString "_law_number") (Str.ofString "_law_number") (defArgs s_law_number) (defBody s_law_number) sc_law_number (df_law_number.dvs K) (df_law_number.kws K) 2 P_law_number m_law_number := by
  obtain ⟨fd, F⟩ := c.d.def_ 15 (d := df_law_number) rfl
  refine core_mk (N := N_law_number) (ps := P_law_number) F so_law_number fun cdv A outer s H E hr => ?_
  have tk : Takes (cxOf (L2.CX P w) P w K mg base N_law_number (Str.ofString "_law_number") sc_law_number (He.fAd K ((Str.ofString "_law_number"), none)) cdv A outer s H E) (wDef E) := takes_of rfl rfl rfl rfl
  exact (sb_cons (ss_set 1 nd_law_number n_law_number_road l_law_number_0_road (Or.inl rfl) (se_call (d_law_take KX G c) (hr.mono (by omega)) tk g_law_number_0_law_take (sr_var 0 n_law_number_bag v_law_number_0_bag (sr_cons se_int sr_nil)))) (sb_cons (ss_if (st_cmp os_lt (se_var 1 n_law_number_road v_law_number_0_road) se_int (nomark _)) (sb_one (ss_ret (se_op os_sub (se_call (d_law_take KX G c) (hr.mono (by omega)) tk g_law_number_0_law_take (sr_var 0 n_law_number_bag v_law_number_0_bag (sr_cons se_int sr_nil))) (se_op os_mulI se_int (se_var 1 n_law_number_road v_law_number_0_road))))) sb_nil) (sb_cons (ss_set 2 nd_law_number n_law_number_sign l_law_number_0_sign (Or.inl rfl) (se_op os_sub se_int (se_op os_mulI se_int (se_call (d_law_take KX G c) (hr.mono (by omega)) tk g_law_number_0_law_take (sr_var 0 n_law_number_bag v_law_number_0_bag (sr_cons se_int sr_nil)))))) (sb_cons (ss_if (st_cmp (os_eq hr.units) (se_var 1 n_law_number_road v_law_number_0_road) se_int (nomark _)) (sb_one (ss_ret (se_op os_mulI (se_var 2 n_law_number_sign v_law_number_0_sign) (se_op os_sub (se_op os_pow se_int se_int) (se_call (d_law_take KX G c) (hr.mono (by omega)) tk g_law_number_0_law_take (sr_var 0 n_law_number_bag v_law_number_0_bag (sr_cons se_int sr_nil))))))) sb_nil) (sb_one (ss_ret (se_op os_mulI (se_var 2 n_law_number_sign v_law_number_0_sign) (se_op os_add (se_op os_mulI (se_call (d_law_take KX G c) (hr.mono (by omega)) tk g_law_number_0_law_take (sr_var 0 n_law_number_bag v_law_number_0_bag (sr_cons (se_op os_pow se_int se_int) sr_nil))) (se_op os_pow se_int se_int)) (se_call (d_law_take KX G c) (hr.mono (by omega)) tk g_law_number_0_law_take (sr_var 0 n_law_number_bag v_law_number_0_bag (sr_cons (se_op os_pow se_int se_int) sr_nil)))))))))))
theorem d_law_number (KX : K.In h) (G : h.Ns mainGlobals mg) (c : SaysF fa fn fx K) : Dfn P w K mg base "_law_number" 2 m_law_number [] := dfn_core (e_law_number KX G c) (He.glo_ok KX G (c.d.fact 26 rfl)) (fun _ _ _ _ _ _ us hl => match us, hl with | [_], _ => rfl)
theorem e_law_is_strict (KX : K.In h) (G : h.Ns mainGlobals mg) (c : SaysF fa fn fx K) : ∀ n : Nat, Core P w K mg base (He.fAd K ((Str.ofString "_law_is_strict"), none)) (Str.ofString "_law_is_strict") (Str.ofString "_law_is_strict") (defArgs s_law_is_strict) (defBody s_law_is_strict) sc_law_is_strict (df_law_is_strict.dvs K) (df_law_is_strict.kws K) (1 + n) P_law_is_strict (m_law_is_strict n)
  | 0 => by
    obtain ⟨fd, F⟩ := c.d.def_ 16 (d := df_law_is_strict) rfl
    exact core_zero F
  | n + 1 => by
    have ih := dfn_core (e_law_is_strict KX G c n) (He.glo_ok KX G (c.d.fact 32 rfl)) (fun _ _ _ _ _ _ us hl => match us, hl with | [_, _], _ => rfl)
    obtain ⟨fd, F⟩ := c.d.def_ 16 (d := df_law_is_strict) rfl
    refine core_mk (k := 1 + n) (N := N_law_is_strict) (ps := P_law_is_strict) F so_law_is_strict fun cdv A outer s H E hr => ?_
    have tk : Takes (cxOf (L2.CX P w) P w K mg base N_law_is_strict (Str.ofString "_law_is_strict") sc_law_is_strict (He.fAd K ((Str.ofString "_law_is_strict"), none)) cdv A outer s H E) (wDef E) := takes_of rfl rfl rfl rfl
    exact (sb_cons (ss_if (st_w (stw_or (st_tru (se_callB (cs_isi (kitT KX G c)) (He.free_ok KX G (c.d.fact 12 rfl)) g_law_is_strict_0_isinstance (by decide +kernel) (sa_cons (se_var 1 n_law_is_strict_due v_law_is_strict_0_due) (sa_cons (se_ty (He.free_ok KX G (c.d.fact 27 rfl)) g_law_is_strict_0_tuple (by decide +kernel)) sa_nil)))) (stw_or1 (st_tru (se_callB (cs_isi (kitT KX G c)) (He.free_ok KX G (c.d.fact 12 rfl)) g_law_is_strict_0_isinstance (by decide +kernel) (sa_cons (se_var 1 n_law_is_strict_due v_law_is_strict_0_due) (sa_cons (se_ty (He.free_ok KX G (c.d.fact 28 rfl)) g_law_is_strict_0_list (by decide +kernel)) sa_nil))))))) (sb_cons (ss_if (st_w (stw_or (st_cmp (os_ne hr.units) (se_callB (cs_isi (kitT KX G c)) (He.free_ok KX G (c.d.fact 12 rfl)) g_law_is_strict_0_isinstance (by decide +kernel) (sa_cons (se_var 1 n_law_is_strict_due v_law_is_strict_0_due) (sa_cons (se_ty (He.free_ok KX G (c.d.fact 27 rfl)) g_law_is_strict_0_tuple (by decide +kernel)) sa_nil))) (se_callB (cs_isi (kitT KX G c)) (He.free_ok KX G (c.d.fact 12 rfl)) g_law_is_strict_0_isinstance (by decide +kernel) (sa_cons (se_var 0 n_law_is_strict_told v_law_is_strict_0_told) (sa_cons (se_ty (He.free_ok KX G (c.d.fact 27 rfl)) g_law_is_strict_0_tuple (by decide +kernel)) sa_nil))) (nomark _)) (stw_or1 (st_cmp (os_ne hr.units) (se_callB (cs_isi (kitT KX G c)) (He.free_ok KX G (c.d.fact 12 rfl)) g_law_is_strict_0_isinstance (by decide +kernel) (sa_cons (se_var 1 n_law_is_strict_due v_law_is_strict_0_due) (sa_cons (se_ty (He.free_ok KX G (c.d.fact 28 rfl)) g_law_is_strict_0_list (by decide +kernel)) sa_nil))) (se_callB (cs_isi (kitT KX G c)) (He.free_ok KX G (c.d.fact 12 rfl)) g_law_is_strict_0_isinstance (by decide +kernel) (sa_cons (se_var 0 n_law_is_strict_told v_law_is_strict_0_told) (sa_cons (se_ty (He.free_ok KX G (c.d.fact 28 rfl)) g_law_is_strict_0_list (by decide +kernel)) sa_nil))) (nomark _))))) (sb_one (ss_ret se_bl)) sb_nil) (sb_cons (ss_if (st_cmp (os_ne hr.units) (se_callBN 0 call_len lenR_ok (He.free_ok KX G (c.d.fact 21 rfl)) g_law_is_strict_0_len (by decide +kernel) n_law_is_strict_told v_law_is_strict_0_told) (se_callBN 1 call_len lenR_ok (He.free_ok KX G (c.d.fact 21 rfl)) g_law_is_strict_0_len (by decide +kernel) n_law_is_strict_due v_law_is_strict_0_due) (nomark _)) (sb_one (ss_ret se_bl)) sb_nil) (sb_one (ss_ret (se_callB (cs_all rfl) (He.free_ok KX G (c.d.fact 30 rfl)) g_law_is_strict_0_all (by decide +kernel) (sa_cons (se_fz (sef_comp (own := [((Str.ofString "k"), 2)]) rfl nd_law_is_strict (si_rng1 (He.free_ok KX G (c.d.fact 29 rfl)) g_law_is_strict_0_range (sa_cons (se_callBN 1 call_len lenR_ok (He.free_ok KX G (c.d.fact 21 rfl)) g_law_is_strict_0_len (by decide +kernel) n_law_is_strict_due v_law_is_strict_0_due) sa_nil)) (blkOk_by (N := N_law_is_strict) (sc := sc_law_is_strict) (scope := sc_law_is_strict_1r) (by decide +kernel)) (by decide) (fun _ _ _ _ _ => (sg_name 2 nd_law_is_strict n_law_is_strict_k l_law_is_strict_1_k (Or.inr il_law_is_strict_1_k))) (fun _ _ _ _ _ => sts_nil) (fun _ _ _ _ _ => (se_call ih (hr.mono (by omega)) takes0 g_law_is_strict_1_law_is_strict (sr_cons (se_ixN 0 n_law_is_strict_told v_law_is_strict_1_told (se_var 2 n_law_is_strict_k v_law_is_strict_1_k)) (sr_cons (se_ixN 1 n_law_is_strict_due v_law_is_strict_1_due (se_var 2 n_law_is_strict_k v_law_is_strict_1_k)) sr_nil)))))) sa_nil)))))) sb_nil) (sb_cons (ss_if (st_cmp os_isN (se_var 1 n_law_is_strict_due v_law_is_strict_0_due) se_non (nomark _)) (sb_one (ss_ret (se_cmp os_isN (se_var 0 n_law_is_strict_told v_law_is_strict_0_told) se_non (nomark _)))) sb_nil) (sb_cons (ss_if (st_tru (se_callB (cs_isi (kitT KX G c)) (He.free_ok KX G (c.d.fact 12 rfl)) g_law_is_strict_0_isinstance (by decide +kernel) (sa_cons (se_var 1 n_law_is_strict_due v_law_is_strict_0_due) (sa_cons (se_ty (He.free_ok KX G (c.d.fact 31 rfl)) g_law_is_strict_0_str (by decide +kernel)) sa_nil)))) (sb_one (ss_ret (se_and (se_callB (cs_isi (kitT KX G c)) (He.free_ok KX G (c.d.fact 12 rfl)) g_law_is_strict_0_isinstance (by decide +kernel) (sa_cons (se_var 0 n_law_is_strict_told v_law_is_strict_0_told) (sa_cons (se_ty (He.free_ok KX G (c.d.fact 31 rfl)) g_law_is_strict_0_str (by decide +kernel)) sa_nil))) (se_one (se_cmp (os_eq hr.units) (se_var 0 n_law_is_strict_told v_law_is_strict_0_told) (se_var 1 n_law_is_strict_due v_law_is_strict_0_due) (nomark _)))))) sb_nil) (sb_one (ss_ret (se_and (se_callB (cs_isi (kitT KX G c)) (He.free_ok KX G (c.d.fact 12 rfl)) g_law_is_strict_0_isinstance (by decide +kernel) (sa_cons (se_var 0 n_law_is_strict_told v_law_is_strict_0_told) (sa_cons (se_ty (He.free_ok KX G (c.d.fact 11 rfl)) g_law_is_strict_0_int (by decide +kernel)) sa_nil))) (se_and (se_cmp (os_eq hr.units) (se_callB (cs_isi (kitT KX G c)) (He.free_ok KX G (c.d.fact 12 rfl)) g_law_is_strict_0_isinstance (by decide +kernel) (sa_cons (se_var 0 n_law_is_strict_told v_law_is_strict_0_told) (sa_cons (se_ty (He.free_ok KX G (c.d.fact 13 rfl)) g_law_is_strict_0_bool (by decide +kernel)) sa_nil))) (se_callB (cs_isi (kitT KX G c)) (He.free_ok KX G (c.d.fact 12 rfl)) g_law_is_strict_0_isinstance (by decide +kernel) (sa_cons (se_var 1 n_law_is_strict_due v_law_is_strict_0_due) (sa_cons (se_ty (He.free_ok KX G (c.d.fact 13 rfl)) g_law_is_strict_0_bool (by decide +kernel)) sa_nil))) (nomark _)) (se_one (se_cmp (os_eq hr.units) (se_var 0 n_law_is_strict_told v_law_is_strict_0_told) (se_var 1 n_law_is_strict_due v_law_is_strict_0_due) (nomark _))))))))))
theorem d_law_is_strict (KX : K.In h) (G : h.Ns mainGlobals mg) (c : SaysF fa fn fx K) (n : Nat) : Dfn P w K mg base "_law_is_strict" (1 + n) (m_law_is_strict n) [] := dfn_core (e_law_is_strict KX G c n) (He.glo_ok KX G (c.d.fact 32 rfl)) (fun _ _ _ _ _ _ us hl => match us, hl with | [_, _], _ => rfl)
theorem e_law_is_near (KX : K.In h) (G : h.Ns mainGlobals mg) (c : SaysF fa fn fx K) : Core P w K mg base (He.fAd K ((Str.ofString "_law_is_near"), none)) (Str.ofString "_law_is_near") (Str.ofString "_law_is_near") (defArgs s_law_is_near) (defBody s_law_is_near) sc_law_is_near (df_law_is_near.dvs K) (df_law_is_near.kws K) 1 P_law_is_near m_law_is_near := by
  obtain ⟨fd, F⟩ := c.d.def_ 17 (d := df_law_is_near) rfl
  refine core_mk (N := N_law_is_near) (ps := P_law_is_near) F so_law_is_near fun cdv A outer s H E hr => ?_
  have tk : Takes (cxOf (L2.CX P w) P w K mg base N_law_is_near (Str.ofString "_law_is_near") sc_law_is_near (He.fAd K ((Str.ofString "_law_is_near"), none)) cdv A outer s H E) (wDef E) := takes_of rfl rfl rfl rfl
  exact (sb_one (ss_ret (se_and (se_callB (cs_isi (kitT KX G c)) (He.free_ok KX G (c.d.fact 12 rfl)) g_law_is_near_0_isinstance (by decide +kernel) (sa_cons (se_var 0 n_law_is_near_thing v_law_is_near_0_thing) (sa_cons (se_ty (He.free_ok KX G (c.d.fact 11 rfl)) g_law_is_near_0_int (by decide +kernel)) sa_nil))) (se_and (se_not (se_callB (cs_isi (kitT KX G c)) (He.free_ok KX G (c.d.fact 12 rfl)) g_law_is_near_0_isinstance (by decide +kernel) (sa_cons (se_var 0 n_law_is_near_thing v_law_is_near_0_thing) (sa_cons (se_ty (He.free_ok KX G (c.d.fact 13 rfl)) g_law_is_near_0_bool (by decide +kernel)) sa_nil)))) (se_one (se_chain os_le os_le (se_un us_neg (se_op os_pow se_int se_int)) (se_var 0 n_law_is_near_thing v_law_is_near_0_thing) (se_op os_pow se_int se_int) (by with_unfolding_all rfl)))))))
theorem d_law_is_near (KX : K.In h) (G : h.Ns mainGlobals mg) (c : SaysF fa fn fx K) : Dfn P w K mg base "_law_is_near" 1 m_law_is_near [] := dfn_core (e_law_is_near KX G c) (He.glo_ok KX G (c.d.fact 33 rfl)) (fun _ _ _ _ _ _ us hl => match us, hl with | [_], _ => rfl)
theorem e_law_days (KX : K.In h) (G : h.Ns mainGlobals mg) (c : SaysF fa fn fx K) : Core P w K mg base (He.fAd K ((Str.ofString "_law_days"), none)) (Str.ofString "_law_days") (Str.ofString "_law_days") (defArgs s_law_days) (defBody s_law_days) sc_law_days (df_law_days.dvs K) (df_law_days.kws K) 3 P_law_days m_law_days := by
  obtain ⟨fd, F⟩ := c.d.def_ 18 (d := df_law_days) rfl
  refine core_mk (N := N_law_days) (ps := P_law_days) F so_law_days fun cdv A outer s H E hr => ?_
  have tk : Takes (cxOf (L2.CX P w) P w K mg base N_law_days (Str.ofString "_law_days") sc_law_days (He.fAd K ((Str.ofString "_law_days"), none)) cdv A outer s H E) (wDef E) := takes_of rfl rfl rfl rfl
  exact (sb_cons (ss_set 1 nd_law_days n_law_days_large l_law_days_0_large (Or.inl rfl) (se_call (d_law_of KX G c) (hr.mono (by omega)) tk g_law_days_0_law_of (sr_var 0 n_law_days_bag v_law_days_0_bag (sr_cons (se_fz (sef_lst (sa_cons (se_op os_pow se_int se_int) (sa_cons se_int (sa_cons (se_op os_add se_int (se_call (d_law_take KX G c) (hr.mono (by omega)) tk g_law_days_0_law_take (sr_var 0 n_law_days_bag v_law_days_0_bag (sr_cons (se_op os_pow se_int se_int) sr_nil)))) sa_nil))))) sr_nil)))) (sb_cons (ss_set 2 nd_law_days n_law_days_length l_law_days_0_length (Or.inl rfl) (se_call (d_law_of KX G c) (hr.mono (by omega)) tk g_law_days_0_law_of (sr_var 0 n_law_days_bag v_law_days_0_bag (sr_cons (se_fz (sef_lst (sa_cons se_int (sa_cons se_int (sa_cons se_int (sa_cons se_int (sa_cons se_int (sa_cons se_int (sa_cons se_int (sa_cons se_int (sa_cons se_int (sa_cons se_int (sa_cons (se_op os_add se_int (se_call (d_law_take KX G c) (hr.mono (by omega)) tk g_law_days_0_law_take (sr_var 0 n_law_days_bag v_law_days_0_bag (sr_cons se_int sr_nil)))) (sa_cons (se_var 1 n_law_days_large v_law_days_0_large) sa_nil)))))))))))))) sr_nil)))) (sb_one (ss_ret (se_tup (sa_cons (se_var 2 n_law_days_length v_law_days_0_length) (sa_cons (se_call (d_law_of KX G c) (hr.mono (by omega)) tk g_law_days_0_law_of (sr_var 0 n_law_days_bag v_law_days_0_bag (sr_cons (se_fz (sef_lst (sa_cons se_int (sa_cons se_int (sa_cons (se_op os_sub (se_var 2 n_law_days_length v_law_days_0_length) se_int) (sa_cons (se_call (d_law_take KX G c) (hr.mono (by omega)) tk g_law_days_0_law_take (sr_var 0 n_law_days_bag v_law_days_0_bag (sr_var 2 n_law_days_length v_law_days_0_length sr_nil))) sa_nil)))))) sr_nil))) sa_nil)))))))
theorem d_law_days (KX : K.In h) (G : h.Ns mainGlobals mg) (c : SaysF fa fn fx K) : Dfn P w K mg base "_law_days" 3 m_law_days [] := dfn_core (e_law_days KX G c) (He.glo_ok KX G (c.d.fact 34 rfl)) (fun _ _ _ _ _ _ us hl => match us, hl with | [_], _ => rfl)
theorem e_law_is_whole (KX : K.In h) (G : h.Ns mainGlobals mg) (c : SaysF fa fn fx K) : Core P w K mg base (He.fAd K ((Str.ofString "_law_is_whole"), none)) (Str.ofString "_law_is_whole") (Str.ofString "_law_is_whole") (defArgs s_law_is_whole) (defBody s_law_is_whole) sc_law_is_whole (df_law_is_whole.dvs K) (df_law_is_whole.kws K) 1 P_law_is_whole m_law_is_whole := by
  obtain ⟨fd, F⟩ := c.d.def_ 19 (d := df_law_is_whole) rfl
  refine core_mk (N := N_law_is_whole) (ps := P_law_is_whole) F so_law_is_whole fun cdv A outer s H E hr => ?_
  have tk : Takes (cxOf (L2.CX P w) P w K mg base N_law_is_whole (Str.ofString "_law_is_whole") sc_law_is_whole (He.fAd K ((Str.ofString "_law_is_whole"), none)) cdv A outer s H E) (wDef E) := takes_of rfl rfl rfl rfl
  exact (sb_one (ss_ret (se_and (se_callB (cs_isi (kitT KX G c)) (He.free_ok KX G (c.d.fact 12 rfl)) g_law_is_whole_0_isinstance (by decide +kernel) (sa_cons (se_var 0 n_law_is_whole_thing v_law_is_whole_0_thing) (sa_cons (se_ty (He.free_ok KX G (c.d.fact 11 rfl)) g_law_is_whole_0_int (by decide +kernel)) sa_nil))) (se_one (se_not (se_callB (cs_isi (kitT KX G c)) (He.free_ok KX G (c.d.fact 12 rfl)) g_law_is_whole_0_isinstance (by decide +kernel) (sa_cons (se_var 0 n_law_is_whole_thing v_law_is_whole_0_thing) (sa_cons (se_ty (He.free_ok KX G (c.d.fact 13 rfl)) g_law_is_whole_0_bool (by decide +kernel)) sa_nil))))))))
theorem d_law_is_whole (KX : K.In h) (G : h.Ns mainGlobals mg) (c : SaysF fa fn fx K) : Dfn P w K mg base "_law_is_whole" 1 m_law_is_whole [] := dfn_core (e_law_is_whole KX G c) (He.glo_ok KX G (c.d.fact 35 rfl)) (fun _ _ _ _ _ _ us hl => match us, hl with | [_], _ => rfl)
theorem e_law_day_refused (KX : K.In h) (G : h.Ns mainGlobals mg) (c : SaysF fa fn fx K) : Core P w K mg base (He.fAd K ((Str.ofString "_law_day_refused"), none)) (Str.ofString "_law_day_refused") (Str.ofString "_law_day_refused") (defArgs s_law_day_refused) (defBody s_law_day_refused) sc_law_day_refused (df_law_day_refused.dvs K) (df_law_day_refused.kws K) 5 P_law_day_refused m_law_day_refused := by
  obtain ⟨fd, F⟩ := c.d.def_ 20 (d := df_law_day_refused) rfl
  refine core_mk (N := N_law_day_refused) (ps := P_law_day_refused) F so_law_day_refused fun cdv A outer s H E hr => ?_
  have tk : Takes (cxOf (L2.CX P w) P w K mg base N_law_day_refused (Str.ofString "_law_day_refused") sc_law_day_refused (He.fAd K ((Str.ofString "_law_day_refused"), none)) cdv A outer s H E) (wDef E) := takes_of rfl rfl rfl rfl
  exact (sb_cons (ss_set 2 nd_law_day_refused n_law_day_refused_told l_law_day_refused_0_told (Or.inl rfl) (se_fz (sef_lst sa_nil))) (sb_cons (ss_tryAs (cs := fun e => (sSet 2 (mFz (mLst (mCons (mXf "day" e) mNil))))) (xtOk KX G c) rfl rfl nd_law_day_refused n_law_day_refused_e il_law_day_refused_0_e (names_own g_law_day_refused_0_BadDay (He.glo_ok KX G (c.d.fact 6 rfl))) tk (fun W2 pn xe tk po => (sb_one (ss_expr (se_fz (sef_make (C := "Days") (cs_Days___init_2_offset KX G c) (He.glo_ok KX G (c.d.fact 36 rfl)) (hr.mono (by omega)) tk g_law_day_refused_0_Days (sc_kw (ks := [(Str.ofString "offset")]) 1 (sr_var 0 n_law_day_refused_length v_law_day_refused_0_length sr_nil) (sk_cons (se_var 1 n_law_day_refused_shift v_law_day_refused_0_shift) sk_nil))))))) (fun a dd oe cls d pn e hz hv hc hd hx => sxb_one (sxs_set 2 nd_law_day_refused n_law_day_refused_told l_law_day_refused_0_told (Or.inl rfl) (sx_lst (sxa_cons (sx_fld (C := "BadDay") (xfF_ok (c.get 10 rfl)) (He.noat_ok (c.d.fact 5 rfl)) (lkX_eq xt_flat hx) hz hv hc hd n_law_day_refused_e v_law_day_refused_0_e) sxa_nil))))) (sb_one (ss_retV 2 n_law_day_refused_told v_law_day_refused_0_told))))
theorem d_law_day_refused (KX : K.In h) (G : h.Ns mainGlobals mg) (c : SaysF fa fn fx K) : Dfn P w K mg base "_law_day_refused" 5 m_law_day_refused [] := dfn_core (e_law_day_refused KX G c) (He.glo_ok KX G (c.d.fact 37 rfl)) (fun _ _ _ _ _ _ us hl => match us, hl with | [_, _], _ => rfl)
theorem e_law_day_due (KX : K.In h) (G : h.Ns mainGlobals mg) (c : SaysF fa fn fx K) : Core P w K mg base (He.fAd K ((Str.ofString "_law_day_due"), none)) (Str.ofString "_law_day_due") (Str.ofString "_law_day_due") (defArgs s_law_day_due) (defBody s_law_day_due) sc_law_day_due (df_law_day_due.dvs K) (df_law_day_due.kws K) 2 P_law_day_due m_law_day_due := by
  obtain ⟨fd, F⟩ := c.d.def_ 21 (d := df_law_day_due) rfl
  refine core_mk (N := N_law_day_due) (ps := P_law_day_due) F so_law_day_due fun cdv A outer s H E hr => ?_
  have tk : Takes (cxOf (L2.CX P w) P w K mg base N_law_day_due (Str.ofString "_law_day_due") sc_law_day_due (He.fAd K ((Str.ofString "_law_day_due"), none)) cdv A outer s H E) (wDef E) := takes_of rfl rfl rfl rfl
  exact (sb_cons (ss_if (st_w (stw_or (st_not (st_tru (se_call (d_law_is_whole KX G c) (hr.mono (by omega)) tk g_law_day_due_0_law_is_whole (sr_var 0 n_law_day_due_length v_law_day_due_0_length sr_nil)))) (stw_or1 (st_not (st_chain os_le os_le se_int (se_var 0 n_law_day_due_length v_law_day_due_0_length) (se_op os_pow se_int se_int) (by with_unfolding_all rfl)))))) (sb_one (ss_ret (se_fz (sef_lst (sa_cons (se_var 0 n_law_day_due_length v_law_day_due_0_length) sa_nil))))) sb_nil) (sb_one (ss_ret (se_if (st_w (stw_and (st_tru (se_call (d_law_is_whole KX G c) (hr.mono (by omega)) tk g_law_day_due_0_law_is_whole (sr_var 1 n_law_day_due_shift v_law_day_due_0_shift sr_nil))) (stw_and1 (st_chain os_le os_lt se_int (se_var 1 n_law_day_due_shift v_law_day_due_0_shift) (se_var 0 n_law_day_due_length v_law_day_due_0_length) (by with_unfolding_all rfl))))) (se_fz (sef_lst sa_nil)) (se_fz (sef_lst (sa_cons (se_var 1 n_law_day_due_shift v_law_day_due_0_shift) sa_nil)))))))
theorem d_law_day_due (KX : K.In h) (G : h.Ns mainGlobals mg) (c : SaysF fa fn fx K) : Dfn P w K mg base "_law_day_due" 2 m_law_day_due [] := dfn_core (e_law_day_due KX G c) (He.glo_ok KX G (c.d.fact 38 rfl)) (fun _ _ _ _ _ _ us hl => match us, hl with | [_, _], _ => rfl)
theorem e_law_moment_refused (KX : K.In h) (G : h.Ns mainGlobals mg) (c : SaysF fa fn fx K) : Core P w K mg base (He.fAd K ((Str.ofString "_law_moment_refused"), none)) (Str.ofString "_law_moment_refused") (Str.ofString "_law_moment_refused") (defArgs s_law_moment_refused) (defBody s_law_moment_refused) sc_law_moment_refused (df_law_moment_refused.dvs K) (df_law_moment_refused.kws K) 5 P_law_moment_refused m_law_moment_refused := by
  obtain ⟨fd, F⟩ := c.d.def_ 22 (d := df_law_moment_refused) rfl
  refine core_mk (N := N_law_moment_refused) (ps := P_law_moment_refused) F so_law_moment_refused fun cdv A outer s H E hr => ?_
  have tk : Takes (cxOf (L2.CX P w) P w K mg base N_law_moment_refused (Str.ofString "_law_moment_refused") sc_law_moment_refused (He.fAd K ((Str.ofString "_law_moment_refused"), none)) cdv A outer s H E) (wDef E) := takes_of rfl rfl rfl rfl
  exact (sb_cons (ss_set 3 nd_law_moment_refused n_law_moment_refused_told l_law_moment_refused_0_told (Or.inl rfl) (se_fz (sef_lst sa_nil))) (sb_cons (ss_tryAs (cs := fun e => (sSet 3 (mFz (mLst (mCons (mXf "moment" e) mNil))))) (xtOk KX G c) rfl rfl nd_law_moment_refused n_law_moment_refused_e il_law_moment_refused_0_e (names_own g_law_moment_refused_0_BadMoment (He.glo_ok KX G (c.d.fact 3 rfl))) tk (fun W2 pn xe tk po => (sb_one (ss_if (st_cmp (os_eq hr.units) (se_var 2 n_law_moment_refused_road v_law_moment_refused_0_road) se_int (nomark _)) (sb_one (ss_expr (se_meth (k := 3) (so_var 0 n_law_moment_refused_days v_law_moment_refused_0_days) (all_cons ((ms_Days_number_2 KX G c).mono (by omega)) all_nil) (hr.mono (by omega)) tk (sc_pos 1 (sr_var 1 n_law_moment_refused_moment v_law_moment_refused_0_moment sr_nil))))) (sb_one (ss_expr (se_meth (k := 4) (so_var 0 n_law_moment_refused_days v_law_moment_refused_0_days) (all_cons ((ms_Days_position_2 KX G c).mono (by omega)) all_nil) (hr.mono (by omega)) tk (sc_pos 1 (sr_var 1 n_law_moment_refused_moment v_law_moment_refused_0_moment sr_nil)))))))) (fun a dd oe cls d pn e hz hv hc hd hx => sxb_one (sxs_set 3 nd_law_moment_refused n_law_moment_refused_told l_law_moment_refused_0_told (Or.inl rfl) (sx_lst (sxa_cons (sx_fld (C := "BadMoment") (xfF_ok (c.get 11 rfl)) (He.noat_ok (c.d.fact 1 rfl)) (lkX_eq xt_flat hx) hz hv hc hd n_law_moment_refused_e v_law_moment_refused_0_e) sxa_nil))))) (sb_one (ss_retV 3 n_law_moment_refused_told v_law_moment_refused_0_told))))
theorem d_law_moment_refused (KX : K.In h) (G : h.Ns mainGlobals mg) (c : SaysF fa fn fx K) : Dfn P w K mg base "_law_moment_refused" 5 m_law_moment_refused [] := dfn_core (e_law_moment_refused KX G c) (He.glo_ok KX G (c.d.fact 39 rfl)) (fun _ _ _ _ _ _ us hl => match us, hl with | [_, _, _], _ => rfl)
theorem e_law_bounds (KX : K.In h) (G : h.Ns mainGlobals mg) (c : SaysF fa fn fx K) : Core P w K mg base (He.fAd K ((Str.ofString "_law_bounds"), none)) (Str.ofString "_law_bounds") (Str.ofString "_law_bounds") (defArgs s_law_bounds) (defBody s_law_bounds) sc_law_bounds (df_law_bounds.dvs K) (df_law_bounds.kws K) 5 P_law_bounds m_law_bounds := by
  obtain ⟨fd, F⟩ := c.d.def_ 23 (d := df_law_bounds) rfl
  refine core_mk (N := N_law_bounds) (ps := P_law_bounds) F so_law_bounds fun cdv A outer s H E hr => ?_
  have tk : Takes (cxOf (L2.CX P w) P w K mg base N_law_bounds (Str.ofString "_law_bounds") sc_law_bounds (He.fAd K ((Str.ofString "_law_bounds"), none)) cdv A outer s H E) (wDef E) := takes_of rfl rfl rfl rfl
  exact (sb_cons (ss_tryAs (cs := fun e => (sSet 2 (mFz (mLst (mCons (mXf "edge" e) mNil))))) (xtOk KX G c) rfl rfl nd_law_bounds n_law_bounds_e il_law_bounds_0_e (names_own g_law_bounds_0_TooFar (He.glo_ok KX G (c.d.fact 10 rfl))) tk (fun W2 pn xe tk po => (sb_one (ss_set 2 nd_law_bounds n_law_bounds_told l_law_bounds_0_told (Or.inl rfl) (se_meth (k := 4) (so_var 0 n_law_bounds_days v_law_bounds_0_days) (all_cons ((ms_Days_bounds_2 KX G c).mono (by omega)) all_nil) (hr.mono (by omega)) tk (sc_pos 1 (sr_var 1 n_law_bounds_number v_law_bounds_0_number sr_nil)))))) (fun a dd oe cls d pn e hz hv hc hd hx => sxb_one (sxs_set 2 nd_law_bounds n_law_bounds_told l_law_bounds_0_told (Or.inl rfl) (sx_lst (sxa_cons (sx_fld (C := "TooFar") (xfF_ok (c.get 12 rfl)) (He.noat_ok (c.d.fact 8 rfl)) (lkX_eq xt_flat hx) hz hv hc hd n_law_bounds_e v_law_bounds_0_e) sxa_nil))))) (sb_one (ss_retV 2 n_law_bounds_told v_law_bounds_0_told)))
theorem d_law_bounds (KX : K.In h) (G : h.Ns mainGlobals mg) (c : SaysF fa fn fx K) : Dfn P w K mg base "_law_bounds" 5 m_law_bounds [] := dfn_core (e_law_bounds KX G c) (He.glo_ok KX G (c.d.fact 40 rfl)) (fun _ _ _ _ _ _ us hl => match us, hl with | [_, _], _ => rfl)
theorem e_law_bounds_due (KX : K.In h) (G : h.Ns mainGlobals mg) (c : SaysF fa fn fx K) : Core P w K mg base (He.fAd K ((Str.ofString "_law_bounds_due"), none)) (Str.ofString "_law_bounds_due") (Str.ofString "_law_bounds_due") (defArgs s_law_bounds_due) (defBody s_law_bounds_due) sc_law_bounds_due (df_law_bounds_due.dvs K) (df_law_bounds_due.kws K) 2 P_law_bounds_due m_law_bounds_due := by
  obtain ⟨fd, F⟩ := c.d.def_ 24 (d := df_law_bounds_due) rfl
  refine core_mk (N := N_law_bounds_due) (ps := P_law_bounds_due) F so_law_bounds_due fun cdv A outer s H E hr => ?_
  have tk : Takes (cxOf (L2.CX P w) P w K mg base N_law_bounds_due (Str.ofString "_law_bounds_due") sc_law_bounds_due (He.fAd K ((Str.ofString "_law_bounds_due"), none)) cdv A outer s H E) (wDef E) := takes_of rfl rfl rfl rfl
  exact (sb_cons (ss_set 3 nd_law_bounds_due n_law_bounds_due_begin l_law_bounds_due_0_begin (Or.inl rfl) (se_op os_add (se_var 1 n_law_bounds_due_shift v_law_bounds_due_0_shift) (se_op os_mulI (se_var 2 n_law_bounds_due_number v_law_bounds_due_0_number) (se_var 0 n_law_bounds_due_length v_law_bounds_due_0_length)))) (sb_cons (ss_for (passes_of rfl) rfl (si_seq (se_tup (sa_cons (se_var 3 n_law_bounds_due_begin v_law_bounds_due_0_begin) (sa_cons (se_op os_add (se_var 3 n_law_bounds_due_begin v_law_bounds_due_0_begin) (se_var 0 n_law_bounds_due_length v_law_bounds_due_0_length)) sa_nil)))) (sg_name 4 nd_law_bounds_due n_law_bounds_due_edge l_law_bounds_due_0_edge (Or.inl rfl)) (sb_one (ss_if (st_not (st_tru (se_call (d_law_is_near KX G c) (hr.mono (by omega)) tk g_law_bounds_due_0_law_is_near (sr_var 4 n_law_bounds_due_edge v_law_bounds_due_0_edge sr_nil)))) (sb_one (ss_ret (se_fz (sef_lst (sa_cons (se_var 4 n_law_bounds_due_edge v_law_bounds_due_0_edge) sa_nil))))) sb_nil))) (sb_one (ss_ret (se_tup (sa_cons (se_var 3 n_law_bounds_due_begin v_law_bounds_due_0_begin) (sa_cons (se_op os_add (se_var 3 n_law_bounds_due_begin v_law_bounds_due_0_begin) (se_var 0 n_law_bounds_due_length v_law_bounds_due_0_length)) sa_nil)))))))
theorem d_law_bounds_due (KX : K.In h) (G : h.Ns mainGlobals mg) (c : SaysF fa fn fx K) : Dfn P w K mg base "_law_bounds_due" 2 m_law_bounds_due [] := dfn_core (e_law_bounds_due KX G c) (He.glo_ok KX G (c.d.fact 41 rfl)) (fun _ _ _ _ _ _ us hl => match us, hl with | [_, _, _], _ => rfl)
theorem e_law_moment (KX : K.In h) (G : h.Ns mainGlobals mg) (c : SaysF fa fn fx K) : Core P w K mg base (He.fAd K ((Str.ofString "_law_moment"), none)) (Str.ofString "_law_moment") (Str.ofString "_law_moment") (defArgs s_law_moment) (defBody s_law_moment) sc_law_moment (df_law_moment.dvs K) (df_law_moment.kws K) 3 P_law_moment m_law_moment := by
  obtain ⟨fd, F⟩ := c.d.def_ 25 (d := df_law_moment) rfl
  refine core_mk (N := N_law_moment) (ps := P_law_moment) F so_law_moment fun cdv A outer s H E hr => ?_
  have tk : Takes (cxOf (L2.CX P w) P w K mg base N_law_moment (Str.ofString "_law_moment") sc_law_moment (He.fAd K ((Str.ofString "_law_moment"), none)) cdv A outer s H E) (wDef E) := takes_of rfl rfl rfl rfl
  exact (sb_cons (ss_set 1 nd_law_moment n_law_moment_far l_law_moment_0_far (Or.inl rfl) (se_op os_sub (se_op os_sub (se_op os_pow se_int se_int) se_int) (se_call (d_law_take KX G c) (hr.mono (by omega)) tk g_law_moment_0_law_take (sr_var 0 n_law_moment_bag v_law_moment_0_bag (sr_cons se_int sr_nil))))) (sb_one (ss_ret (se_call (d_law_of KX G c) (hr.mono (by omega)) tk g_law_moment_0_law_of (sr_var 0 n_law_moment_bag v_law_moment_0_bag (sr_cons (se_fz (sef_lst (sa_cons (se_call (d_law_number KX G c) (hr.mono (by omega)) tk g_law_moment_0_law_number (sr_var 0 n_law_moment_bag v_law_moment_0_bag sr_nil)) (sa_cons (se_var 1 n_law_moment_far v_law_moment_0_far) (sa_cons (se_un us_neg (se_var 1 n_law_moment_far v_law_moment_0_far)) (sa_cons (se_op os_sub (se_call (d_law_take KX G c) (hr.mono (by omega)) tk g_law_moment_0_law_take (sr_var 0 n_law_moment_bag v_law_moment_0_bag (sr_cons se_int sr_nil))) se_int) sa_nil)))))) sr_nil))))))
theorem d_law_moment (KX : K.In h) (G : h.Ns mainGlobals mg) (c : SaysF fa fn fx K) : Dfn P w K mg base "_law_moment" 3 m_law_moment [] := dfn_core (e_law_moment KX G c) (He.glo_ok KX G (c.d.fact 42 rfl)) (fun _ _ _ _ _ _ us hl => match us, hl with | [_], _ => rfl)
theorem e_law_right (KX : K.In h) (G : h.Ns mainGlobals mg) (c : SaysF fa fn fx K) : Core P w K mg base (He.fAd K ((Str.ofString "_law_right"), none)) (Str.ofString "_law_right") (Str.ofString "_law_right") (defArgs s_law_right) (defBody s_law_right) sc_law_right (df_law_right.dvs K) (df_law_right.kws K) 8 P_law_right m_law_right := by
  obtain ⟨fd, F⟩ := c.d.def_ 26 (d := df_law_right) rfl
  refine core_mk (N := N_law_right) (ps := P_law_right) F so_law_right fun cdv A outer s H E hr => ?_
  have tk : Takes (cxOf (L2.CX P w) P w K mg base N_law_right (Str.ofString "_law_right") sc_law_right (He.fAd K ((Str.ofString "_law_right"), none)) cdv A outer s H E) (wDef E) := takes_of rfl rfl rfl rfl
  exact (sb_cons (ss_asg (sg_tup (n := 2) rfl (sgs_cons (sg_name 1 nd_law_right n_law_right_length l_law_right_0_length (Or.inl rfl)) (sgs_cons (sg_name 2 nd_law_right n_law_right_shift l_law_right_0_shift (Or.inl rfl)) sgs_nil)) rfl) (se_call (d_law_days KX G c) (hr.mono (by omega)) tk g_law_right_0_law_days (sr_var 0 n_law_right_bag v_law_right_0_bag sr_nil))) (sb_cons (ss_set 3 nd_law_right n_law_right_days l_law_right_0_days (Or.inl rfl) (se_fz (sef_make (C := "Days") (cs_Days___init_2_offset KX G c) (He.glo_ok KX G (c.d.fact 36 rfl)) (hr.mono (by omega)) tk g_law_right_0_Days (sc_kw (ks := [(Str.ofString "offset")]) 1 (sr_var 1 n_law_right_length v_law_right_0_length sr_nil) (sk_cons (se_var 2 n_law_right_shift v_law_right_0_shift) sk_nil))))) (sb_cons (ss_if (st_not (st_tru (se_call (d_law_is_strict KX G c 6) (hr.mono (by omega)) tk g_law_right_0_law_is_strict (sr_cons (se_fz (sef_lst (sa_cons (se_fld (at_cons (He.cls_ok (c.d.fact 18 rfl)) (He.noat_ok (c.d.fact 19 rfl)) at_nil) (so_var 3 n_law_right_days v_law_right_0_days)) (sa_cons (se_fld (at_cons (He.cls_ok (c.d.fact 18 rfl)) (He.noat_ok (c.d.fact 20 rfl)) at_nil) (so_var 3 n_law_right_days v_law_right_0_days)) (sa_cons (se_ccon (c.get 14 rfl) (se_glob (glb_con KX G (c.get 9 rfl)) g_law_right_0_Days)) (sa_cons (se_con (tb := [("Days", (.int 400))]) (all_cons ⟨He.cls_ok (c.d.fact 18 rfl), ccon_ok (c.get 13 rfl)⟩ all_nil) (so_var 3 n_law_right_days v_law_right_0_days)) sa_nil)))))) (sr_cons (se_fz (sef_lst (sa_cons (se_var 1 n_law_right_length v_law_right_0_length) (sa_cons (se_var 2 n_law_right_shift v_law_right_0_shift) (sa_cons se_int (sa_cons se_int sa_nil)))))) sr_nil))))) (sb_one (ss_ret se_bl)) sb_nil) (sb_cons (ss_set 4 nd_law_right n_law_right_some l_law_right_0_some (Or.inl rfl) (se_fz (sef_lst (sa_cons se_non (sa_cons se_bl (sa_cons se_bl (sa_cons se_int (sa_cons se_int (sa_cons (se_un us_neg se_int) (sa_cons se_int (sa_cons se_int (sa_cons (se_op os_pow se_int se_int) (sa_cons (se_op os_add (se_op os_pow se_int se_int) se_int) (sa_cons se_str (sa_cons (se_tup (sa_cons se_int sa_nil)) (sa_cons (se_fz (sef_lst (sa_cons se_int sa_nil))) (sa_cons (se_var 1 n_law_right_length v_law_right_0_length) (sa_cons (se_op os_sub (se_var 1 n_law_right_length v_law_right_0_length) se_int) (sa_cons (se_var 2 n_law_right_shift v_law_right_0_shift) (sa_cons (se_op os_pow se_int se_int) sa_nil)))))))))))))))))))) (sb_cons (ss_par (i := 5) (j := 6) rfl nd_law_right n_law_right_one n_law_right_two (by decide) il_law_right_0_one il_law_right_0_two (sa_cons (se_call (d_law_of KX G c) (hr.mono (by omega)) tk g_law_right_0_law_of (sr_var 0 n_law_right_bag v_law_right_0_bag (sr_var 4 n_law_right_some v_law_right_0_some sr_nil))) (sa_cons (se_call (d_law_of KX G c) (hr.mono (by omega)) tk g_law_right_0_law_of (sr_var 0 n_law_right_bag v_law_right_0_bag (sr_var 4 n_law_right_some v_law_right_0_some sr_nil))) sa_nil)) (by rfl)) (sb_cons (ss_for (passes_of rfl) rfl (si_seq (se_tup (sa_cons (se_fz (sef_lst (sa_cons (se_var 5 n_law_right_one v_law_right_0_one) (sa_cons (se_var 6 n_law_right_two v_law_right_0_two) sa_nil)))) (sa_cons (se_fz (sef_lst (sa_cons (se_var 1 n_law_right_length v_law_right_0_length) (sa_cons (se_var 6 n_law_right_two v_law_right_0_two) sa_nil)))) (sa_cons (se_fz (sef_lst (sa_cons (se_var 5 n_law_right_one v_law_right_0_one) (sa_cons (se_var 2 n_law_right_shift v_law_right_0_shift) sa_nil)))) (sa_cons (se_fz (sef_lst (sa_cons (se_var 1 n_law_right_length v_law_right_0_length) (sa_cons (se_var 1 n_law_right_length v_law_right_0_length) sa_nil)))) (sa_cons (se_fz (sef_lst (sa_cons (se_var 1 n_law_right_length v_law_right_0_length) (sa_cons (se_un us_neg se_int) sa_nil)))) (sa_cons (se_fz (sef_lst (sa_cons se_int (sa_cons se_int sa_nil)))) (sa_cons (se_fz (sef_lst (sa_cons (se_var 1 n_law_right_length v_law_right_0_length) (sa_cons (se_var 2 n_law_right_shift v_law_right_0_shift) sa_nil)))) sa_nil))))))))) (sg_name 7 nd_law_right n_law_right_pair l_law_right_0_pair (Or.inl rfl)) (sb_one (ss_if (st_not (st_tru (se_call (d_law_is_strict KX G c 6) (hr.mono (by omega)) tk g_law_right_0_law_is_strict (sr_cons (se_call (d_law_day_refused KX G c) (hr.mono (by omega)) tk g_law_right_0_law_day_refused (sr_cons (se_ixN 7 n_law_right_pair v_law_right_0_pair se_int) (sr_cons (se_ixN 7 n_law_right_pair v_law_right_0_pair se_int) sr_nil))) (sr_cons (se_call (d_law_day_due KX G c) (hr.mono (by omega)) tk g_law_right_0_law_day_due (sr_cons (se_ixN 7 n_law_right_pair v_law_right_0_pair se_int) (sr_cons (se_ixN 7 n_law_right_pair v_law_right_0_pair se_int) sr_nil))) sr_nil))))) (sb_one (ss_ret se_bl)) sb_nil))) (sb_cons (ss_for (passes_of rfl) rfl (si_rng1 (He.free_ok KX G (c.d.fact 29 rfl)) g_law_right_0_range (sa_cons se_int sa_nil)) (sg_name 8 nd_law_right n_law_right_turn l_law_right_0_turn (Or.inl rfl)) (sb_cons (ss_set 9 nd_law_right n_law_right_moment l_law_right_0_moment (Or.inl rfl) (se_call (d_law_moment KX G c) (hr.mono (by omega)) tk g_law_right_0_law_moment (sr_var 0 n_law_right_bag v_law_right_0_bag sr_nil))) (sb_cons (ss_set 10 nd_law_right n_law_right_day l_law_right_0_day (Or.inl rfl) (se_op os_fdiv (se_op os_sub (se_var 9 n_law_right_moment v_law_right_0_moment) (se_var 2 n_law_right_shift v_law_right_0_shift)) (se_var 1 n_law_right_length v_law_right_0_length))) (sb_cons (ss_if (st_not (st_tru (se_call (d_law_is_strict KX G c 6) (hr.mono (by omega)) tk g_law_right_0_law_is_strict (sr_cons (se_fz (sef_lst (sa_cons (se_meth (k := 3) (so_var 3 n_law_right_days v_law_right_0_days) (all_cons ((ms_Days_number_2 KX G c).mono (by omega)) all_nil) (hr.mono (by omega)) tk (sc_pos 1 (sr_var 9 n_law_right_moment v_law_right_0_moment sr_nil))) (sa_cons (se_meth (k := 4) (so_var 3 n_law_right_days v_law_right_0_days) (all_cons ((ms_Days_position_2 KX G c).mono (by omega)) all_nil) (hr.mono (by omega)) tk (sc_pos 1 (sr_var 9 n_law_right_moment v_law_right_0_moment sr_nil))) sa_nil)))) (sr_cons (se_fz (sef_lst (sa_cons (se_var 10 n_law_right_day v_law_right_0_day) (sa_cons (se_op os_sub (se_op os_sub (se_var 9 n_law_right_moment v_law_right_0_moment) (se_var 2 n_law_right_shift v_law_right_0_shift)) (se_op os_mulI (se_var 10 n_law_right_day v_law_right_0_day) (se_var 1 n_law_right_length v_law_right_0_length))) sa_nil)))) sr_nil))))) (sb_one (ss_ret se_bl)) sb_nil) (sb_cons (ss_if (st_not (st_tru (se_call (d_law_is_strict KX G c 6) (hr.mono (by omega)) tk g_law_right_0_law_is_strict (sr_cons (se_call (d_law_bounds KX G c) (hr.mono (by omega)) tk g_law_right_0_law_bounds (sr_var 3 n_law_right_days v_law_right_0_days (sr_var 10 n_law_right_day v_law_right_0_day sr_nil))) (sr_cons (se_call (d_law_bounds_due KX G c) (hr.mono (by omega)) tk g_law_right_0_law_bounds_due (sr_var 1 n_law_right_length v_law_right_0_length (sr_var 2 n_law_right_shift v_law_right_0_shift (sr_var 10 n_law_right_day v_law_right_0_day sr_nil)))) sr_nil))))) (sb_one (ss_ret se_bl)) sb_nil) (sb_cons (ss_set 11 nd_law_right n_law_right_edge l_law_right_0_edge (Or.inl rfl) (se_call (d_law_of KX G c) (hr.mono (by omega)) tk g_law_right_0_law_of (sr_var 0 n_law_right_bag v_law_right_0_bag (sr_cons (se_fz (sef_lst (sa_cons (se_op os_pow se_int se_int) (sa_cons (se_un us_neg (se_op os_pow se_int se_int)) sa_nil)))) sr_nil)))) (sb_cons (ss_set 10 nd_law_right n_law_right_day l_law_right_0_day (Or.inl rfl) (se_op os_sub (se_op os_add (se_op os_fdiv (se_op os_sub (se_var 11 n_law_right_edge v_law_right_0_edge) (se_var 2 n_law_right_shift v_law_right_0_shift)) (se_var 1 n_law_right_length v_law_right_0_length)) (se_call (d_law_take KX G c) (hr.mono (by omega)) tk g_law_right_0_law_take (sr_var 0 n_law_right_bag v_law_right_0_bag (sr_cons se_int sr_nil)))) se_int)) (sb_one (ss_if (st_not (st_tru (se_call (d_law_is_strict KX G c 6) (hr.mono (by omega)) tk g_law_right_0_law_is_strict (sr_cons (se_call (d_law_bounds KX G c) (hr.mono (by omega)) tk g_law_right_0_law_bounds (sr_var 3 n_law_right_days v_law_right_0_days (sr_var 10 n_law_right_day v_law_right_0_day sr_nil))) (sr_cons (se_call (d_law_bounds_due KX G c) (hr.mono (by omega)) tk g_law_right_0_law_bounds_due (sr_var 1 n_law_right_length v_law_right_0_length (sr_var 2 n_law_right_shift v_law_right_0_shift (sr_var 10 n_law_right_day v_law_right_0_day sr_nil)))) sr_nil))))) (sb_one (ss_ret se_bl)) sb_nil))))))))) (sb_cons (ss_set 12 nd_law_right n_law_right_odd l_law_right_0_odd (Or.inl rfl) (se_call (d_law_of KX G c) (hr.mono (by omega)) tk g_law_right_0_law_of (sr_var 0 n_law_right_bag v_law_right_0_bag (sr_cons (se_fz (sef_lst (sa_cons se_non (sa_cons se_bl (sa_cons se_str (sa_cons (se_op os_pow se_int se_int) (sa_cons (se_un us_neg (se_op os_pow se_int se_int)) (sa_cons (se_op os_add (se_op os_pow se_int se_int) se_int) (sa_cons (se_tup (sa_cons se_int sa_nil)) (sa_cons (se_fz (sef_lst sa_nil)) (sa_cons se_bl sa_nil))))))))))) sr_nil)))) (sb_cons (ss_if (st_not (st_tru (se_call (d_law_is_strict KX G c 6) (hr.mono (by omega)) tk g_law_right_0_law_is_strict (sr_cons (se_fz (sef_comp (own := [((Str.ofString "k"), 16)]) rfl nd_law_right (si_rng1 (He.free_ok KX G (c.d.fact 29 rfl)) g_law_right_0_range (sa_cons se_int sa_nil)) (blkOk_by (N := N_law_right) (sc := sc_law_right) (scope := sc_law_right_1r) (by decide +kernel)) (by decide) (fun _ _ _ _ _ => (sg_name 16 nd_law_right n_law_right_k l_law_right_1_k (Or.inr il_law_right_1_k))) (fun _ _ _ _ _ => sts_nil) (fun _ _ _ _ _ => (se_call (d_law_moment_refused KX G c) (hr.mono (by omega)) takes0 g_law_right_1_law_moment_refused (sr_var 3 n_law_right_days v_law_right_1_days (sr_var 12 n_law_right_odd v_law_right_1_odd (sr_var 16 n_law_right_k v_law_right_1_k sr_nil))))))) (sr_cons (se_fz (sef_lst (sa_cons (se_fz (sef_lst (sa_cons (se_var 12 n_law_right_odd v_law_right_0_odd) sa_nil))) (sa_cons (se_fz (sef_lst (sa_cons (se_var 12 n_law_right_odd v_law_right_0_odd) sa_nil))) sa_nil)))) sr_nil))))) (sb_one (ss_ret se_bl)) sb_nil) (sb_cons (ss_set 13 nd_law_right n_law_right_twin l_law_right_0_twin (Or.inl rfl) (se_fz (sef_make (C := "Days") (cs_Days___init_2_offset KX G c) (He.glo_ok KX G (c.d.fact 36 rfl)) (hr.mono (by omega)) tk g_law_right_0_Days (sc_kw (ks := [(Str.ofString "offset")]) 1 (sr_var 1 n_law_right_length v_law_right_0_length sr_nil) (sk_cons (se_op os_mod (se_op os_add (se_var 2 n_law_right_shift v_law_right_0_shift) se_int) (se_var 1 n_law_right_length v_law_right_0_length)) sk_nil))))) (sb_cons (ss_if (st_w (stw_or (st_cmp (os_neG (k := 1) hr.units (hr.mono (by omega)) (no_x tk) (kitT KX G c) (all_cons ((es_Days___eq KX G c).mono (by omega)) all_nil)) (se_cmp (os_eqG (k := 1) hr.units (hr.mono (by omega)) (no_x tk) (kitT KX G c) (all_cons ((es_Days___eq KX G c).mono (by omega)) all_nil)) (se_var 3 n_law_right_days v_law_right_0_days) (se_var 13 n_law_right_twin v_law_right_0_twin) (nomark _)) (se_cmp (os_eqG (k := 1) hr.units (hr.mono (by omega)) (no_x tk) (kitT KX G c) (all_cons ((es_Days___eq KX G c).mono (by omega)) all_nil)) (se_var 1 n_law_right_length v_law_right_0_length) se_int (nomark _)) (nomark _)) (stw_or1 (st_cmp (os_neG (k := 1) hr.units (hr.mono (by omega)) (no_x tk) (kitT KX G c) (all_cons ((es_Days___eq KX G c).mono (by omega)) all_nil)) (se_cmp (os_neG (k := 1) hr.units (hr.mono (by omega)) (no_x tk) (kitT KX G c) (all_cons ((es_Days___eq KX G c).mono (by omega)) all_nil)) (se_var 13 n_law_right_twin v_law_right_0_twin) (se_var 3 n_law_right_days v_law_right_0_days) (nomark _)) (se_cmp os_gt (se_var 1 n_law_right_length v_law_right_0_length) se_int (nomark _)) (nomark _))))) (sb_one (ss_ret se_bl)) sb_nil) (sb_cons (ss_set 14 nd_law_right n_law_right_whole l_law_right_0_whole (Or.inl rfl) (se_call (d_law_of KX G c) (hr.mono (by omega)) tk g_law_right_0_law_of (sr_var 0 n_law_right_bag v_law_right_0_bag (sr_cons (se_fz (sef_lst (sa_cons (se_var 1 n_law_right_length v_law_right_0_length) (sa_cons (se_op os_add (se_op os_mod (se_var 1 n_law_right_length v_law_right_0_length) se_int) se_int) sa_nil)))) sr_nil)))) (sb_cons (ss_set 15 nd_law_right n_law_right_other l_law_right_0_other (Or.inl rfl) (se_fz (sef_make (C := "Days") (cs_Days___init_2 KX G c) (He.glo_ok KX G (c.d.fact 36 rfl)) (hr.mono (by omega)) tk g_law_right_0_Days (sc_pos 1 (sr_var 14 n_law_right_whole v_law_right_0_whole sr_nil))))) (sb_cons (ss_if (st_w (stw_or (st_cmp (os_neG (k := 1) hr.units (hr.mono (by omega)) (no_x tk) (kitT KX G c) (all_cons ((es_Days___eq KX G c).mono (by omega)) all_nil)) (se_cmp (os_eqG (k := 1) hr.units (hr.mono (by omega)) (no_x tk) (kitT KX G c) (all_cons ((es_Days___eq KX G c).mono (by omega)) all_nil)) (se_var 3 n_law_right_days v_law_right_0_days) (se_var 15 n_law_right_other v_law_right_0_other) (nomark _)) (se_and (se_cmp (os_eqG (k := 1) hr.units (hr.mono (by omega)) (no_x tk) (kitT KX G c) (all_cons ((es_Days___eq KX G c).mono (by omega)) all_nil)) (se_var 1 n_law_right_length v_law_right_0_length) (se_var 14 n_law_right_whole v_law_right_0_whole) (nomark _)) (se_one (se_cmp (os_eqG (k := 1) hr.units (hr.mono (by omega)) (no_x tk) (kitT KX G c) (all_cons ((es_Days___eq KX G c).mono (by omega)) all_nil)) (se_var 2 n_law_right_shift v_law_right_0_shift) se_int (nomark _)))) (nomark _)) (stw_or1 (st_not (st_cmp (os_eqG (k := 1) hr.units (hr.mono (by omega)) (no_x tk) (kitT KX G c) (all_cons ((es_Days___eq KX G c).mono (by omega)) all_nil)) (se_var 3 n_law_right_days v_law_right_0_days) (se_fz (sef_make (C := "Days") (cs_Days___init_2_offset KX G c) (He.glo_ok KX G (c.d.fact 36 rfl)) (hr.mono (by omega)) tk g_law_right_0_Days (sc_kw (ks := [(Str.ofString "offset")]) 1 (sr_var 1 n_law_right_length v_law_right_0_length sr_nil) (sk_cons (se_var 2 n_law_right_shift v_law_right_0_shift) sk_nil)))) (nomark _)))))) (sb_one (ss_ret se_bl)) sb_nil) (sb_one (ss_ret (se_and (se_cmp (os_neG (k := 1) hr.units (hr.mono (by omega)) (no_x tk) (kitT KX G c) (all_cons ((es_Days___eq KX G c).mono (by omega)) all_nil)) (se_var 3 n_law_right_days v_law_right_0_days) (se_fz (sef_make (C := "Days") (cs_Days___init_2_offset KX G c) (He.glo_ok KX G (c.d.fact 36 rfl)) (hr.mono (by omega)) tk g_law_right_0_Days (sc_kw (ks := [(Str.ofString "offset")]) 1 (sr_cons (se_op os_add (se_op os_mod (se_var 1 n_law_right_length v_law_right_0_length) (se_op os_pow se_int se_int)) se_int) sr_nil) (sk_cons se_int sk_nil)))) (nomark _)) (se_and (se_not (se_cmp (os_eqG (k := 1) hr.units (hr.mono (by omega)) (no_x tk) (kitT KX G c) (all_cons ((es_Days___eq KX G c).mono (by omega)) all_nil)) (se_var 3 n_law_right_days v_law_right_0_days) (se_var 1 n_law_right_length v_law_right_0_length) (nomark _))) (se_one (se_not (se_cmp (os_eqG (k := 1) hr.units (hr.mono (by omega)) (no_x tk) (kitT KX G c) (all_cons ((es_Days___eq KX G c).mono (by omega)) all_nil)) (se_var 3 n_law_right_days v_law_right_0_days) (se_tup (sa_cons (se_var 1 n_law_right_length v_law_right_0_length) (sa_cons (se_var 2 n_law_right_shift v_law_right_0_shift) sa_nil))) (nomark _))))))))))))))))))))))
theorem d_law_right (KX : K.In h) (G : h.Ns mainGlobals mg) (c : SaysF fa fn fx K) : Dfn P w K mg base "_law_right" 8 m_law_right [] := dfn_core (e_law_right KX G c) (He.glo_ok KX G (c.d.fact 43 rfl)) (fun _ _ _ _ _ _ us hl => match us, hl with | [_], _ => rfl)
theorem e_law (KX : K.In h) (G : h.Ns mainGlobals mg) (c : SaysF fa fn fx K) : Core P w K mg base (He.fAd K ((Str.ofString "law"), none)) (Str.ofString "law") (Str.ofString "law") (defArgs s_law) (defBody s_law) sc_law (df_law.dvs K) (df_law.kws K) 9 P_law m_law := by
  obtain ⟨fd, F⟩ := c.d.def_ 27 (d := df_law) rfl
  refine core_mk (N := N_law) (ps := P_law) F so_law fun cdv A outer s H E hr => ?_
  have tk : Takes (cxOf (L2.CX P w) P w K mg base N_law (Str.ofString "law") sc_law (He.fAd K ((Str.ofString "law"), none)) cdv A outer s H E) (wDef E) := takes_of rfl rfl rfl rfl
  exact (sb_cons (ss_set 1 nd_law n_law_plain l_law_0_plain (Or.inl rfl) (se_fz (sef_make (C := "Days") (cs_Days___init_1 KX G c) (He.glo_ok KX G (c.d.fact 36 rfl)) (hr.mono (by omega)) tk g_law_0_Days sc_nil))) (sb_cons (ss_if (st_w (stw_or (st_not (st_tru (se_call (d_law_is_strict KX G c 6) (hr.mono (by omega)) tk g_law_0_law_is_strict (sr_cons (se_fz (sef_lst (sa_cons (se_fld (at_cons (He.cls_ok (c.d.fact 18 rfl)) (He.noat_ok (c.d.fact 19 rfl)) at_nil) (so_var 1 n_law_plain v_law_0_plain)) (sa_cons (se_fld (at_cons (He.cls_ok (c.d.fact 18 rfl)) (He.noat_ok (c.d.fact 20 rfl)) at_nil) (so_var 1 n_law_plain v_law_0_plain)) sa_nil)))) (sr_cons (se_fz (sef_lst (sa_cons se_int (sa_cons se_int sa_nil)))) sr_nil))))) (stw_or1 (st_cmp (os_neG (k := 1) hr.units (hr.mono (by omega)) (no_x tk) (kitT KX G c) (all_cons ((es_Days___eq KX G c).mono (by omega)) all_nil)) (se_var 1 n_law_plain v_law_0_plain) (se_fz (sef_make (C := "Days") (cs_Days___init_2_offset KX G c) (He.glo_ok KX G (c.d.fact 36 rfl)) (hr.mono (by omega)) tk g_law_0_Days (sc_kw (ks := [(Str.ofString "offset")]) 1 (sr_cons se_int sr_nil) (sk_cons se_int sk_nil)))) (nomark _))))) (sb_one (ss_ret se_bl)) sb_nil) (sb_cons (ss_for (passes_of rfl) rfl (si_rng1 (He.free_ok KX G (c.d.fact 29 rfl)) g_law_0_range (sa_cons (se_callB (cs_max2 rfl) (He.free_ok KX G (c.d.fact 45 rfl)) g_law_0_max (by decide +kernel) (sa_cons se_int (sa_cons (se_callB (cs_min2 rfl) (He.free_ok KX G (c.d.fact 44 rfl)) g_law_0_min (by decide +kernel) (sa_cons se_int (sa_cons (se_callBN 0 call_len lenR_ok (He.free_ok KX G (c.d.fact 21 rfl)) g_law_0_len (by decide +kernel) n_law_script v_law_0_script) sa_nil))) sa_nil))) sa_nil)) (sg_name 2 nd_law n_law_at l_law_0_at (Or.inl rfl)) (sb_cons (ss_setF 3 nd_law n_law_bag l_law_0_bag (Or.inl rfl) (sef_call (d_law_bag KX G c) (hr.mono (by omega)) tk g_law_0_law_bag (sr_var 0 n_law_script v_law_0_script (sr_var 2 n_law_at v_law_0_at sr_nil)))) (sb_one (ss_for (passes_of rfl) rfl (si_rng1 (He.free_ok KX G (c.d.fact 29 rfl)) g_law_0_range (sa_cons se_int sa_nil)) (sg_name 4 nd_law n_law_turn l_law_0_turn (Or.inl rfl)) (sb_one (ss_if (st_not (st_tru (se_call (d_law_right KX G c) (hr.mono (by omega)) tk g_law_0_law_right (sr_var 3 n_law_bag v_law_0_bag sr_nil)))) (sb_one (ss_ret se_bl)) sb_nil)))))) (sb_one (ss_ret se_bl)))))
theorem d_law (KX : K.In h) (G : h.Ns mainGlobals mg) (c : SaysF fa fn fx K) : Dfn P w K mg base "law" 9 m_law [] := dfn_core (e_law KX G c) (He.glo_ok KX G (c.d.fact 46 rfl)) (fun _ _ _ _ _ _ us hl => match us, hl with | [_], _ => rfl)
end Q
set_option Elab.async false
set_option linter.all false
set_option maxRecDepth 100000
set_option maxHeartbeats 1000000
namespace Q
open PySem
open PySem.Spec
open L2
open FL
/-- a bag of the law -/
def bagD (a b c : Int) : SV := .bor (.lst [.int a, .int b, .int c])
theorem log2_lt {i : Int} {n : Nat} (h0 : 0 ≤ i) (hn : n ≠ 0) (h : i < 2 ^ n) : i.natAbs.log2 < n := by
  have h1 : i.natAbs < 2 ^ n := by
    have : ((i.natAbs : Nat) : Int) < ((2 ^ n : Nat) : Int) := by
      rw [Int.natAbs_of_nonneg h0]
      exact_mod_cast h
    exact_mod_cast this
  by_cases h2 : i.natAbs = 0
  · rw [h2]
    simpa using Nat.pos_of_ne_zero hn
  · exact (Nat.log2_lt h2).mpr h1
theorem take1 {a b c many : Int} (ha : 0 < a) (hm : 0 < many) (hl : many.natAbs.log2 < 9000) : m_law_take [bagD a b c, .d (.int many)] = some (.ret (.d (.int (a % many))) [bagD (a / many) b c, .d (.int many)]) := by
  have h1 : dGt (.int a) (.int 0) = some (.bl true) := by simp [dGt, ha]
  have h2 : dMod (.int a) (.int many) = some (.int (a % many)) := by simp [dMod, hm]
  have h3 : dFdiv (.int a) (.int many) = some (.int (a / many)) := by simp [dFdiv, fdivOk, hm, hl]
  have i0 : dIx (.lst [.int a, .int b, .int c]) (.int 0) = some (.int a) := rfl
  simp [m_law_take, b_law_take, mkF, bagD, sSeq, sIf, sE, mT, m2, mIxN, mNm, itemOf, M.bind, M.ret, M.opt, i0, h1, h2, h3, sSet, sOpt, setD, mB, mCons, mNil, gInt1, mVar, sSetAt, setAt, sRetV, up, outs, outOf, L2.ixN]
/-- the hash's road -/
def mix1 (b c : Int) : Int := ((b + 999983 * c) ^ 3) % 2305843009213693921
def mix2 (b c : Int) : Int := ((mix1 b c + 49979687 * c) ^ 2) % 2305843009213693951
theorem mix1_b {b c : Int} : 0 ≤ mix1 b c ∧ mix1 b c < 2305843009213693921 := ⟨Int.emod_nonneg _ (by decide), Int.emod_lt_of_pos _ (by decide)⟩
theorem mix2_b {b c : Int} : 0 ≤ mix2 b c ∧ mix2 b c < 2305843009213693951 := ⟨Int.emod_nonneg _ (by decide), Int.emod_lt_of_pos _ (by decide)⟩
theorem take2 {a b c many : Int} (ha : a ≤ 0) (hb : 0 ≤ b) (hb2 : b ≤ 2 ^ 63 + 2 ^ 62) (hc : 0 ≤ c) (hc2 : c < 1000000) (hm : 0 < many) :
    m_law_take [bagD a b c, .d (.int many)] = some (.ret (.d (.int (mix2 b (c + 1) / 1024 % many))) [bagD a b (c + 1), .d (.int many)]) := by
  have h1 : dGt (.int a) (.int 0) = some (.bl false) := by simp [dGt]; omega
  have i0 : dIx (.lst [.int a, .int b, .int c]) (.int 0) = some (.int a) := rfl
  have i2 : dIx (.lst [.int a, .int b, .int c]) (.int 2) = some (.int c) := rfl
  have j1 : dIx (.lst [.int a, .int b, .int (c + 1)]) (.int 1) = some (.int b) := rfl
  have j2 : dIx (.lst [.int a, .int b, .int (c + 1)]) (.int 2) = some (.int (c + 1)) := rfl
  have a1 : dAdd (.int c) (.int 1) = some (.int (c + 1)) := rfl
  have l0 : (c + 1).natAbs.log2 < 64 := log2_lt (by omega) (by decide) (by omega)
  have l1 : (999983 : Int).natAbs.log2 = 19 := by decide +kernel
  have l2 : (49979687 : Int).natAbs.log2 = 25 := by decide +kernel
  have m1 : dMulI (.int 999983) (.int (c + 1)) = some (.int (999983 * (c + 1))) := by
    have : mulOk 999983 (c + 1) := by unfold mulOk; rw [l1]; omega
    simp [dMulI, this]
  have a2 : dAdd (.int b) (.int (999983 * (c + 1))) = some (.int (b + 999983 * (c + 1))) := rfl
  have p1 : dPow (.int (b + 999983 * (c + 1))) (.int 3) = some (.int ((b + 999983 * (c + 1)) ^ 3)) := by
    have : powOk (b + 999983 * (c + 1)) 3 := ⟨by decide, by decide, by omega⟩
    simp only [dPow, this, if_true]
    rfl
  have d1 : dMod (.int ((b + 999983 * (c + 1)) ^ 3)) (.int 2305843009213693921) = some (.int (mix1 b (c + 1))) := by simp [dMod, mix1]
  have m2' : dMulI (.int 49979687) (.int (c + 1)) = some (.int (49979687 * (c + 1))) := by
    have : mulOk 49979687 (c + 1) := by unfold mulOk; rw [l2]; omega
    simp [dMulI, this]
  have a3 : dAdd (.int (mix1 b (c + 1))) (.int (49979687 * (c + 1))) = some (.int (mix1 b (c + 1) + 49979687 * (c + 1))) := rfl
  have q := mix1_b (b := b) (c := c + 1)
  have p2 : dPow (.int (mix1 b (c + 1) + 49979687 * (c + 1))) (.int 2) = some (.int ((mix1 b (c + 1) + 49979687 * (c + 1)) ^ 2)) := by
    have : powOk (mix1 b (c + 1) + 49979687 * (c + 1)) 2 := ⟨by decide, by decide, by omega⟩
    simp only [dPow, this, if_true]
    rfl
  have d2 : dMod (.int ((mix1 b (c + 1) + 49979687 * (c + 1)) ^ 2)) (.int 2305843009213693951) = some (.int (mix2 b (c + 1))) := by simp [dMod, mix2]
  have f1 : dFdiv (.int (mix2 b (c + 1))) (.int 1024) = some (.int (mix2 b (c + 1) / 1024)) := by
    have : fdivOk (mix2 b (c + 1)) 1024 := ⟨by decide, by decide +kernel⟩
    simp [dFdiv, this]
  have d3 : dMod (.int (mix2 b (c + 1) / 1024)) (.int many) = some (.int (mix2 b (c + 1) / 1024 % many)) := by simp [dMod, hm]
  simp [m_law_take, b_law_take, mkF, bagD, sSeq, sIf, sE, mT, m2, mIxN, mNm, itemOf, M.bind, M.ret, M.opt, i0, i2, j1, j2, h1, a1, a2, a3, m1, m2', p1, p2, d1, d2, d3, f1, sSet, sOpt, setD, mB, mCons, mNil, gInt1, mVar, sSetAt, setAt, sRetV, sRet, up, outs, outOf, L2.ixN]
mutual
def okS : Nat → D → Bool
  | 0, _ => false
  | _ + 1, .non => true
  | _ + 1, .bl _ => true
  | _ + 1, .int _ => true
  | _ + 1, .str _ => true
  | n + 1, .tup xs => decide (xs.length ≤ 1000) && oksS n xs
  | n + 1, .lst xs => decide (xs.length ≤ 1000) && oksS n xs
  | _ + 1, _ => false
def oksS : Nat → List D → Bool
  | _, [] => true
  | n, x :: xs => okS n x && oksS n xs
end
theorem oksS_mem {n : Nat} : ∀ {xs : List D}, oksS n xs = true → ∀ x ∈ xs, okS n x = true
  | [], _, x, hx => by cases hx
  | y :: ys, h, x, hx => by
    unfold oksS at h
    obtain ⟨h1, h2⟩ := and_tt h
    rcases List.mem_cons.mp hx with rfl | hx
    · exact h1
    · exact oksS_mem h2 x hx
theorem isi_eq {d : D} {t u : String} {b : Bool} (h : tyN d = some (.b t)) (ho : okIns ins d = true) (hl : lkT kt (.b t) (.b u) = some b) : gIsi kt ins [d, .ty u] = some (.bl b) := by
  simp only [gIsi, h, clN, ho, if_true, hl]
  rfl
theorem strict_seq {n : Nat} {d : D} {xs : List D} (hx : d = .tup xs ∨ d = .lst xs) (hl : xs.length ≤ 1000) (ih : ∀ x ∈ xs, m_law_is_strict n [.d x, .d x] = some (.ret (.d (.bl true)) [.d x, .d x])) :
    m_law_is_strict (n + 1) [.d d, .d d] = some (.ret (.d (.bl true)) [.d d, .d d]) := by
  have hix : ∀ (k : Nat) x, xs[k]? = some x → dIx d (.int (k : Int)) = some x := fun k x h => by
    rcases hx with rfl | rfl
    · exact dIx_tup h
    · exact dIx_lst h
  have hlen : gLen [d] = some (.int xs.length) := by rcases hx with rfl | rfl <;> rfl
  have ht : ∃ q, gIsi kt ins [d, .ty "tuple"] = some (.bl q) ∧ ∃ q2, gIsi kt ins [d, .ty "list"] = some (.bl q2) ∧ (q || q2) = true := by
    rcases hx with rfl | rfl
    · exact ⟨true, isi_eq (t := "tuple") rfl rfl (by decide +kernel), false, isi_eq (t := "tuple") rfl rfl (by decide +kernel), rfl⟩
    · exact ⟨false, isi_eq (t := "list") rfl rfl (by decide +kernel), true, isi_eq (t := "list") rfl rfl (by decide +kernel), rfl⟩
  obtain ⟨q, e1, q2, e2, eq⟩ := ht
  have hn : ∀ q : Bool, dNe (.bl q) (.bl q) = some (.bl false) := fun q => by cases q <;> rfl
  have hni : dNe (.int xs.length) (.int xs.length) = some (.bl false) := by simp [dNe, dEq, dOr, dEqS, scV, scal, dNot]
  have hr : rng1 [.int (xs.length : Int)] = some ((List.range xs.length).map fun (i : Nat) => D.int (0 + (i : Int))) := by
    have h1 : -(2 ^ 62 : Int) ≤ (xs.length : Int) := by omega
    have h2 : (xs.length : Int) < 2 ^ 62 := by omega
    simp only [rng1, h1, h2, and_self, if_true, Int.toNat_natCast]
  have hcomp : compL [2] (setD 2) (M.ret true) (mCall (m_law_is_strict n) [] (rCons (mIxN 0 (mVar 2)) (rCons (mIxN 1 (mVar 2)) rNil))) ((List.range xs.length).map fun (i : Nat) => D.int (0 + (i : Int))) [] [some (.d d), some (.d d), none] =
      some (.ok ([] ++ ((List.range xs.length).map fun (i : Nat) => D.int (0 + (i : Int))).map fun _ => .bl true) [some (.d d), some (.d d), none]) := by
    refine compL_map (h := fun _ => .bl true) (fun y hy => ?_) (by rw [List.length_map, List.length_range, sizeLine_eq, List.length_nil]; omega)
    obtain ⟨k, hk, rfl⟩ := List.mem_map.mp hy
    have hk' : k < xs.length := List.mem_range.mp hk
    have e := hix k _ (List.getElem?_eq_getElem hk')
    have i := ih _ (List.getElem_mem hk')
    simp [inner, noCell, wipeE, setD, turnC, M.bind, M.ret, mCall, rCons, mIxN, mNm, mVar, itemOf, e, rNil, callM, arsSV, arSV, slotsOf, i, rvD, putB, restE]
  have hall : gAll [.lst (((List.range xs.length).map fun (i : Nat) => D.int (0 + (i : Int))).map fun _ => .bl true)] = some (.bl true) := by
    have : ∀ l : List D, blsD (l.map fun _ => D.bl true) = some (l.map fun _ => true) := fun l => by
      induction l with
      | nil => rfl
      | cons x l ih => simp [blsD, ih]
    show (blsD _).map _ = _
    rw [this]
    simp
  have hsc : isSc (.int (xs.length : Int)) = true := rfl
  cases q <;> cases q2 <;> simp_all [m_law_is_strict, b_law_is_strict, mkF, up, sSeq, sIf, sE, mTOr, mTru, mB, mCons, mNil, mVar, M.bind, M.ret, M.opt, dTru, mT, m2, mBN, nmD, sRet, mFz, mComp, mRng, fz, outs, outOf]
theorem strict_refl : ∀ (n : Nat) (d : D), okS n d = true → m_law_is_strict n [.d d, .d d] = some (.ret (.d (.bl true)) [.d d, .d d])
  | 0, d, h => by unfold okS at h; cases h
  | n + 1, d, h => by
    cases d with
    | tup xs =>
      unfold okS at h
      obtain ⟨h1, h2⟩ := and_tt h
      exact strict_seq (.inl rfl) (of_decide_eq_true h1) fun x hx => strict_refl n x (oksS_mem h2 x hx)
    | lst xs =>
      unfold okS at h
      obtain ⟨h1, h2⟩ := and_tt h
      exact strict_seq (.inr rfl) (of_decide_eq_true h1) fun x hx => strict_refl n x (oksS_mem h2 x hx)
    | non =>
      have e0 : gIsi kt ins [.non, .ty "tuple"] = some (.bl false) := isi_eq (t := "NoneType") rfl rfl (by decide +kernel)
      have e1 : gIsi kt ins [.non, .ty "list"] = some (.bl false) := isi_eq (t := "NoneType") rfl rfl (by decide +kernel)
      simp [m_law_is_strict, b_law_is_strict, mkF, up, sSeq, sIf, sE, mTOr, mTru, mB, mCons, mNil, mVar, M.bind, M.ret, M.opt, dTru, mT, m2, sRet, outs, outOf, e0, e1, dIsN, FL.isNon]
    | bl q =>
      have e0 : gIsi kt ins [.bl q, .ty "tuple"] = some (.bl false) := isi_eq (t := "bool") rfl rfl (by decide +kernel)
      have e1 : gIsi kt ins [.bl q, .ty "list"] = some (.bl false) := isi_eq (t := "bool") rfl rfl (by decide +kernel)
      have e2 : gIsi kt ins [.bl q, .ty "str"] = some (.bl false) := isi_eq (t := "bool") rfl rfl (by decide +kernel)
      have e3 : gIsi kt ins [.bl q, .ty "int"] = some (.bl true) := isi_eq (t := "bool") rfl rfl (by decide +kernel)
      have e4 : gIsi kt ins [.bl q, .ty "bool"] = some (.bl true) := isi_eq (t := "bool") rfl rfl (by decide +kernel)
      have e5 : ∀ q : Bool, dEq (.bl q) (.bl q) = some (.bl true) := fun q => by cases q <;> rfl
      simp [m_law_is_strict, b_law_is_strict, mkF, up, sSeq, sIf, sE, mTOr, mTru, mB, mCons, mNil, mVar, M.bind, M.ret, M.opt, dTru, mT, m2, sRet, outs, outOf, mAnd, e0, e1, e2, e3, e4, e5, dIsN, FL.isNon]
    | int i =>
      have e0 : gIsi kt ins [.int i, .ty "tuple"] = some (.bl false) := isi_eq (t := "int") rfl rfl (by decide +kernel)
      have e1 : gIsi kt ins [.int i, .ty "list"] = some (.bl false) := isi_eq (t := "int") rfl rfl (by decide +kernel)
      have e2 : gIsi kt ins [.int i, .ty "str"] = some (.bl false) := isi_eq (t := "int") rfl rfl (by decide +kernel)
      have e3 : gIsi kt ins [.int i, .ty "int"] = some (.bl true) := isi_eq (t := "int") rfl rfl (by decide +kernel)
      have e4 : gIsi kt ins [.int i, .ty "bool"] = some (.bl false) := isi_eq (t := "int") rfl rfl (by decide +kernel)
      have e5 : dEq (.bl false) (.bl false) = some (.bl true) := rfl
      have e6 : dEq (.int i) (.int i) = some (.bl true) := by simp [dEq, dOr, dEqS, scV, scal]
      simp [m_law_is_strict, b_law_is_strict, mkF, up, sSeq, sIf, sE, mTOr, mTru, mB, mCons, mNil, mVar, M.bind, M.ret, M.opt, dTru, mT, m2, sRet, outs, outOf, mAnd, e0, e1, e2, e3, e4, e5, e6, dIsN, FL.isNon]
    | str y =>
      have e0 : gIsi kt ins [.str y, .ty "tuple"] = some (.bl false) := isi_eq (t := "str") rfl rfl (by decide +kernel)
      have e1 : gIsi kt ins [.str y, .ty "list"] = some (.bl false) := isi_eq (t := "str") rfl rfl (by decide +kernel)
      have e2 : gIsi kt ins [.str y, .ty "str"] = some (.bl true) := isi_eq (t := "str") rfl rfl (by decide +kernel)
      have e6 : dEq (.str y) (.str y) = some (.bl true) := by simp [dEq, dOr, dEqS, scV, scal]
      simp [m_law_is_strict, b_law_is_strict, mkF, up, sSeq, sIf, sE, mTOr, mTru, mB, mCons, mNil, mVar, M.bind, M.ret, M.opt, dTru, mT, m2, sRet, outs, outOf, mAnd, e0, e1, e2, e6, dIsN, FL.isNon]
    | ty n => unfold okS at h; cases h
    | cls n => unfold okS at h; cases h
    | ins C ks fs => unfold okS at h; cases h
def Bc (n : Nat) (c : Cell) : Prop := ∃ a b d : Int, c = .lst [.int a, .int b, .int d] ∧ 0 ≤ a ∧ 0 ≤ b ∧ b ≤ 2 ^ 63 + 2 ^ 62 ∧ 0 ≤ d ∧ d ≤ n
theorem Bc.mono {n m : Nat} {c : Cell} (h : Bc n c) (l : n ≤ m) : Bc m c := by
  obtain ⟨a, b, d, h1, h2, h3, h4, h5, h6⟩ := h
  exact ⟨a, b, d, h1, h2, h3, h4, h5, by omega⟩
theorem take {n : Nat} {c : Cell} {many : Int} (h : Bc n c) (hn : n < 900000) (hm : 0 < many) (hl : many.natAbs.log2 < 9000) :
    ∃ v c', m_law_take [.bor c, .d (.int many)] = some (.ret (.d (.int v)) [.bor c', .d (.int many)]) ∧ 0 ≤ v ∧ v < many ∧ Bc (n + 1) c' := by
  obtain ⟨a, b, d, rfl, h2, h3, h4, h5, h6⟩ := h
  by_cases ha : 0 < a
  · exact ⟨a % many, _, take1 ha hm hl, Int.emod_nonneg _ (by omega), Int.emod_lt_of_pos _ hm, a / many, b, d, rfl, Int.ediv_nonneg (by omega) (by omega), h3, h4, h5, by omega⟩
  · exact ⟨mix2 b (d + 1) / 1024 % many, _, take2 (by omega) h3 h4 h5 (by omega) hm, Int.emod_nonneg _ (by omega), Int.emod_lt_of_pos _ hm, a, b, d + 1, rfl, h2, h3, h4, by omega, by omega⟩
theorem of_ {n : Nat} {c : Cell} {xs : List D} (h : Bc n c) (hn : n < 900000) (hx : xs ≠ []) (hl : xs.length ≤ 1000) :
    ∃ x c', m_law_of [.bor c, .d (.lst xs)] = some (.ret (.d x) [.bor c', .d (.lst xs)]) ∧ x ∈ xs ∧ Bc (n + 1) c' := by
  have h0 : 0 < xs.length := List.length_pos_iff.mpr hx
  obtain ⟨v, c', e, h1, h2, h3⟩ := take (many := (xs.length : Int)) h hn (by omega) (Nat.lt_trans (log2_lt (i := (xs.length : Int)) (n := 20) (by omega) (by decide) (by omega)) (by decide))
  obtain ⟨k, rfl⟩ : ∃ k : Nat, v = (k : Int) := ⟨v.toNat, by omega⟩
  have hk : k < xs.length := by omega
  have ex := dIx_lst (List.getElem?_eq_getElem hk)
  have hsc : isSc (.int (xs.length : Int)) = true := rfl
  have hlen : gLen [.lst xs] = some (.int xs.length) := rfl
  refine ⟨xs[k], c', ?_, List.getElem_mem hk, h3⟩
  simp [m_law_of, b_law_of, mkF, up, sSeq, sIf, sE, mT, m2, mIxN, mNm, itemOf, M.bind, M.ret, M.opt, sSet, sOpt, setD, mB, mCons, mNil, mVar, sRetV, sRet, outs, outOf, mCall, rCons, rVar, rNil, mArV, callM, arsSV, arSV, slotsOf, putB, setCell, rvD, mBN, nmD, fz, hlen, hsc, e, ex]
theorem number {n : Nat} {c : Cell} (h : Bc n c) (hn : n < 800000) : ∃ v c', m_law_number [.bor c] = some (.ret (.d (.int v)) [.bor c']) ∧ -(10 ^ 31 - 1) < v ∧ v < 10 ^ 31 - 1 ∧ Bc (n + 4) c' := by
  obtain ⟨r, c1, e1, r1, r2, b1⟩ := take (many := 4) h (by omega) (by decide) (by decide +kernel)
  by_cases h2 : r < 2
  · obtain ⟨v, c2, e2, v1, v2, b2⟩ := take (many := 9) b1 (by omega) (by decide) (by decide +kernel)
    have hlt : dLt (.int r) (.int 2) = some (.bl true) := by simp [dLt, h2]
    have l1 : r.natAbs.log2 < 4 := log2_lt (by omega) (by decide) (by omega)
    have l3 : (3 : Int).natAbs.log2 = 1 := by decide +kernel
    have hm : dMulI (.int 3) (.int r) = some (.int (3 * r)) := by
      have : mulOk 3 r := by unfold mulOk; rw [l3]; omega
      simp [dMulI, this]
    have hs : dSub (.int v) (.int (3 * r)) = some (.int (v - 3 * r)) := rfl
    refine ⟨v - 3 * r, c2, ?_, by omega, by omega, b2.mono (by omega)⟩
    simp [m_law_number, b_law_number, mkF, up, sSeq, sIf, sE, mT, m2, mIxN, mNm, itemOf, M.bind, M.ret, M.opt, sSet, sOpt, setD, mB, mCons, mNil, mVar, sRetV, sRet, outs, outOf, mCall, rCons, rVar, rNil, mArV, callM, arsSV, arSV, slotsOf, putB, setCell, rvD, mBN, nmD, fz, e1, e2, hlt, hm, hs]
  · obtain ⟨g, c2, e2, g1, g2, b2⟩ := take (many := 2) b1 (by omega) (by decide) (by decide +kernel)
    have hlt : dLt (.int r) (.int 2) = some (.bl false) := by simp [dLt, h2]
    have l1 : g.natAbs.log2 < 4 := log2_lt (by omega) (by decide) (by omega)
    have l3 : (2 : Int).natAbs.log2 = 1 := by decide +kernel
    have hm : dMulI (.int 2) (.int g) = some (.int (2 * g)) := by
      have : mulOk 2 g := by unfold mulOk; rw [l3]; omega
      simp [dMulI, this]
    have hs : dSub (.int 1) (.int (2 * g)) = some (.int (1 - 2 * g)) := rfl
    have hg : 1 - 2 * g = 1 ∨ 1 - 2 * g = -1 := by omega
    have lg : (1 - 2 * g).natAbs.log2 = 0 := by rcases hg with e | e <;> rw [e] <;> decide +kernel
    have p30 : dPow (.int 10) (.int 30) = some (.int (10 ^ 30)) := rfl
    have p15 : dPow (.int 10) (.int 15) = some (.int (10 ^ 15)) := rfl
    by_cases h3 : r = 2
    · obtain ⟨v, c3, e3, v1, v2, b3⟩ := take (many := 3) b2 (by omega) (by decide) (by decide +kernel)
      have he : dEq (.int r) (.int 2) = some (.bl true) := by simp [dEq, dOr, dEqS, scV, scal, h3]
      have hs2 : dSub (.int (10 ^ 30)) (.int v) = some (.int (10 ^ 30 - v)) := rfl
      have lv : (10 ^ 30 - v).natAbs.log2 < 200 := log2_lt (by omega) (by decide) (by omega)
      have hm2 : dMulI (.int (1 - 2 * g)) (.int (10 ^ 30 - v)) = some (.int ((1 - 2 * g) * (10 ^ 30 - v))) := by
        have : mulOk (1 - 2 * g) (10 ^ 30 - v) := by unfold mulOk; rw [lg]; omega
        simp only [dMulI, this, if_true]
      refine ⟨(1 - 2 * g) * (10 ^ 30 - v), c3, ?_, by rcases hg with e | e <;> rw [e] <;> omega, by rcases hg with e | e <;> rw [e] <;> omega, b3.mono (by omega)⟩
      simp only [Int.reducePow] at *
      simp [m_law_number, b_law_number, mkF, up, sSeq, sIf, sE, mT, m2, mIxN, mNm, itemOf, M.bind, M.ret, M.opt, sSet, sOpt, setD, mB, mCons, mNil, mVar, sRetV, sRet, outs, outOf, mCall, rCons, rVar, rNil, mArV, callM, arsSV, arSV, slotsOf, putB, setCell, rvD, mBN, nmD, fz, e1, e2, e3, hlt, hm, hs, he, hs2, hm2, p30]
    · obtain ⟨v, c3, e3, v1, v2, b3⟩ := take (many := 10 ^ 15) b2 (by omega) (by decide) (by decide +kernel)
      obtain ⟨u, c4, e4, u1, u2, b4⟩ := take (many := 10 ^ 15) b3 (by omega) (by decide) (by decide +kernel)
      have he : dEq (.int r) (.int 2) = some (.bl false) := by simp [dEq, dOr, dEqS, scV, scal, h3]
      have lv : v.natAbs.log2 < 200 := log2_lt (by omega) (by decide) (by omega)
      have l15 : (10 ^ 15 : Int).natAbs.log2 = 49 := by decide +kernel
      have hm3 : dMulI (.int v) (.int (10 ^ 15)) = some (.int (v * 10 ^ 15)) := by
        have : mulOk v (10 ^ 15) := by unfold mulOk; rw [l15]; omega
        simp only [dMulI, this, if_true]
      have ha : dAdd (.int (v * 10 ^ 15)) (.int u) = some (.int (v * 10 ^ 15 + u)) := rfl
      have lw : (v * 10 ^ 15 + u).natAbs.log2 < 200 := log2_lt (by omega) (by decide) (by omega)
      have hm2 : dMulI (.int (1 - 2 * g)) (.int (v * 10 ^ 15 + u)) = some (.int ((1 - 2 * g) * (v * 10 ^ 15 + u))) := by
        have : mulOk (1 - 2 * g) (v * 10 ^ 15 + u) := by unfold mulOk; rw [lg]; omega
        simp only [dMulI, this, if_true]
      refine ⟨(1 - 2 * g) * (v * 10 ^ 15 + u), c4, ?_, by rcases hg with e | e <;> rw [e] <;> omega, by rcases hg with e | e <;> rw [e] <;> omega, b4.mono (by omega)⟩
      simp only [Int.reducePow] at *
      simp [m_law_number, b_law_number, mkF, up, sSeq, sIf, sE, mT, m2, mIxN, mNm, itemOf, M.bind, M.ret, M.opt, sSet, sOpt, setD, mB, mCons, mNil, mVar, sRetV, sRet, outs, outOf, mCall, rCons, rVar, rNil, mArV, callM, arsSV, arSV, slotsOf, putB, setCell, rvD, mBN, nmD, fz, e1, e2, e3, e4, hlt, hm, hs, he, hm3, ha, hm2, p15]
end Q
set_option Elab.async false
set_option linter.all false
set_option maxRecDepth 100000
set_option maxHeartbeats 1000000
namespace Q
open PySem
open PySem.Spec
open L2
open FL
theorem days {n : Nat} {c : Cell} (h : Bc n c) (hn : n < 800000) : ∃ len sh c', m_law_days [.bor c] = some (.ret (.d (.tup [.int len, .int sh])) [.bor c']) ∧ 1 ≤ len ∧ len ≤ 1000000 ∧ 0 ≤ sh ∧ sh < len ∧ Bc (n + 6) c' := by
  have p6 : dPow (.int 10) (.int 6) = some (.int 1000000) := rfl
  obtain ⟨v1, c1, e1, a1, a2, b1⟩ := take (many := 1000000) h (by omega) (by decide) (by decide +kernel)
  have d1 : dAdd (.int 1) (.int v1) = some (.int (1 + v1)) := rfl
  obtain ⟨x, c2, e2, hx, b2⟩ := of_ (xs := [.int 1000000, .int 999983, .int (1 + v1)]) b1 (by omega) (by simp) (by simp)
  obtain ⟨lg, rfl, hl1, hl2⟩ : ∃ k, x = .int k ∧ 1 ≤ k ∧ k ≤ 1000000 := by
    simp only [List.mem_cons, List.not_mem_nil, or_false] at hx
    rcases hx with rfl | rfl | rfl
    · exact ⟨_, rfl, by omega, by omega⟩
    · exact ⟨_, rfl, by omega, by omega⟩
    · exact ⟨_, rfl, by omega, by omega⟩
  obtain ⟨v3, c3, e3, a3, a4, b3⟩ := take (many := 1440) b2 (by omega) (by decide) (by decide +kernel)
  have d3 : dAdd (.int 1) (.int v3) = some (.int (1 + v3)) := rfl
  obtain ⟨y, c4, e4, hy, b4⟩ := of_ (xs := [.int 1, .int 2, .int 3, .int 7, .int 24, .int 60, .int 90, .int 360, .int 1440, .int 1440, .int (1 + v3), .int lg]) b3 (by omega) (by simp) (by simp)
  obtain ⟨len, rfl, hk1, hk2⟩ : ∃ k, y = .int k ∧ 1 ≤ k ∧ k ≤ 1000000 := by
    simp only [List.mem_cons, List.not_mem_nil, or_false] at hy
    rcases hy with rfl | rfl | rfl | rfl | rfl | rfl | rfl | rfl | rfl | rfl | rfl | rfl <;> exact ⟨_, rfl, by omega, by omega⟩
  obtain ⟨v5, c5, e5, a5, a6, b5⟩ := take (many := len) b4 (by omega) (by omega) (Nat.lt_trans (log2_lt (i := len) (n := 30) (by omega) (by decide) (by omega)) (by decide))
  have d5 : dSub (.int len) (.int 1) = some (.int (len - 1)) := rfl
  obtain ⟨z, c6, e6, hz, b6⟩ := of_ (xs := [.int 0, .int 0, .int (len - 1), .int v5]) b5 (by omega) (by simp) (by simp)
  obtain ⟨sh, rfl, hs1, hs2⟩ : ∃ k, z = .int k ∧ 0 ≤ k ∧ k < len := by
    simp only [List.mem_cons, List.not_mem_nil, or_false] at hz
    rcases hz with rfl | rfl | rfl | rfl <;> exact ⟨_, rfl, by omega, by omega⟩
  refine ⟨len, sh, c6, ?_, hk1, hk2, hs1, hs2, b6⟩
  have z3 : (3 : Nat) ≤ sizeLine := by decide
  have z12 : (12 : Nat) ≤ sizeLine := by decide
  have z4 : (4 : Nat) ≤ sizeLine := by decide
  have z2 : (2 : Nat) ≤ sizeLine := by decide
  simp [m_law_days, b_law_days, mkF, up, sSeq, sIf, sE, mT, m2, mIxN, mNm, itemOf, M.bind, M.ret, M.opt, sSet, sOpt, setD, mB, mCons, mNil, mVar, sRetV, sRet, outs, outOf, mCall, rCons, rVar, rNil, mArV, callM, arsSV, arSV, slotsOf, putB, setCell, rvD, mBN, nmD, fz, mFz, mLst, mTup, p6, e1, d1, e2, e3, d3, e4, e5, d5, e6, z3, z12, z4, z2]
theorem moment {n : Nat} {c : Cell} (h : Bc n c) (hn : n < 700000) : ∃ m c', m_law_moment [.bor c] = some (.ret (.d (.int m)) [.bor c']) ∧ -(10000000000000000000000000000000) < m ∧ m < 10000000000000000000000000000000 ∧ Bc (n + 7) c' := by
  have p31 : dPow (.int 10) (.int 31) = some (.int (10000000000000000000000000000000)) := rfl
  have s1 : dSub (.int (10000000000000000000000000000000)) (.int 1) = some (.int (9999999999999999999999999999999)) := rfl
  obtain ⟨v1, c1, e1, a1, a2, b1⟩ := take (many := 2) h (by omega) (by decide) (by decide +kernel)
  have s2 : dSub (.int (9999999999999999999999999999999)) (.int v1) = some (.int (9999999999999999999999999999999 - v1)) := rfl
  obtain ⟨v2, c2, e2, a3, a4, b2⟩ := number b1 (by omega)
  simp only [Int.reducePow] at a3 a4
  have ng : dNeg (.int (9999999999999999999999999999999 - v1)) = some (.int (-(9999999999999999999999999999999 - v1))) := rfl
  obtain ⟨v3, c3, e3, a5, a6, b3⟩ := take (many := 3000) b2 (by omega) (by decide) (by decide +kernel)
  have s3 : dSub (.int v3) (.int 1500) = some (.int (v3 - 1500)) := rfl
  obtain ⟨x, c4, e4, hx, b4⟩ := of_ (xs := [.int v2, .int (9999999999999999999999999999999 - v1), .int (-(9999999999999999999999999999999 - v1)), .int (v3 - 1500)]) b3 (by omega) (by simp) (by simp)
  obtain ⟨m, rfl, hs1, hs2⟩ : ∃ k, x = .int k ∧ -(10000000000000000000000000000000) < k ∧ k < 10000000000000000000000000000000 := by
    simp only [List.mem_cons, List.not_mem_nil, or_false] at hx
    rcases hx with rfl | rfl | rfl | rfl <;> exact ⟨_, rfl, by omega, by omega⟩
  refine ⟨m, c4, ?_, hs1, hs2, b4.mono (by omega)⟩
  have z4 : (4 : Nat) ≤ sizeLine := by decide
  simp [m_law_moment, b_law_moment, mkF, up, sSeq, sIf, sE, mT, m2, mIxN, mNm, itemOf, M.bind, M.ret, M.opt, sSet, sOpt, setD, mB, mCons, mNil, mVar, sRetV, sRet, outs, outOf, mCall, rCons, rVar, rNil, mArV, callM, arsSV, arSV, slotsOf, putB, setCell, rvD, mBN, nmD, fz, mFz, mLst, m1, p31, s1, e1, s2, e2, ng, e3, s3, e4, z4]
end Q
set_option Elab.async false
set_option linter.all false
set_option maxRecDepth 100000
set_option maxHeartbeats 1000000
namespace Q
open PySem
open PySem.Spec
open L2
open FL
def isI : D → Bool
  | .int _ => true
  | _ => false
def plainD : D → Bool
  | .non => true
  | .bl _ => true
  | .int _ => true
  | .str _ => true
  | .tup _ => true
  | .lst _ => true
  | _ => false
theorem is_integer {d : D} (h : plainD d = true) : m_is_integer [.d d] = some (.ret (.d (.bl (isI d))) [.d d]) := by
  have key : ∀ (t : String) (q : Bool), tyN d = some (.b t) → okIns ins d = true → lkT kt (.b t) (.b "int") = some q → ∀ q2, lkT kt (.b t) (.b "bool") = some q2 → (q && !q2) = isI d → m_is_integer [.d d] = some (.ret (.d (.bl (isI d))) [.d d]) := fun t q h1 h2 h3 q2 h4 h5 => by
    have e1 : gIsi kt ins [d, .ty "int"] = some (.bl q) := isi_eq h1 h2 h3
    have e2 : gIsi kt ins [d, .ty "bool"] = some (.bl q2) := isi_eq h1 h2 h4
    rw [← h5]
    cases q <;> simp [m_is_integer, b_is_integer, mkF, up, sSeq, sIf, sE, mT, m2, mIxN, mNm, itemOf, M.bind, M.ret, M.opt, sSet, sOpt, setD, mB, mCons, mNil, mVar, sRetV, sRet, outs, outOf, mCall, rCons, rVar, rNil, mArV, callM, arsSV, arSV, slotsOf, putB, setCell, rvD, mBN, nmD, fz, mAnd, mNot, e1, e2]
  cases d with
  | non => exact key "NoneType" false rfl rfl (by decide +kernel) false (by decide +kernel) rfl
  | bl b => exact key "bool" true rfl rfl (by decide +kernel) true (by decide +kernel) rfl
  | int i => exact key "int" true rfl rfl (by decide +kernel) false (by decide +kernel) rfl
  | str y => exact key "str" false rfl rfl (by decide +kernel) false (by decide +kernel) rfl
  | tup xs => exact key "tuple" false rfl rfl (by decide +kernel) false (by decide +kernel) rfl
  | lst xs => exact key "list" false rfl rfl (by decide +kernel) false (by decide +kernel) rfl
  | _ => cases h
theorem is_whole {d : D} (h : plainD d = true) : m_law_is_whole [.d d] = some (.ret (.d (.bl (isI d))) [.d d]) := is_integer h
/-- a Days of this length, this offset -/
def daysD (len sh : Int) : D := .ins "Days" ["length", "offset"] [.int len, .int sh]
/-- what Days(a, b) does -/
def badDay (a b : D) : Option D := match a with
  | .int i => if 1 ≤ i ∧ i ≤ 1000000 then (match b with
    | .int j => if 0 ≤ j ∧ j < i then none else some b
    | _ => some b) else some a
  | _ => some a
theorem init_bad {a b d : D} (ha : plainD a = true) (hb : plainD b = true) (h : badDay a b = some d) :
    m_Days___init [.bor (.ins "Days" [] []), .d a, .d b] = some (.raise ⟨"BadDay", ["day"], [d]⟩ [.bor (.ins "Days" [] []), .d a, .d b]) := by
  have ea := is_integer ha
  have eb := is_integer hb
  unfold badDay at h
  split at h
  · rename_i i
    split at h
    · rename_i hi
      obtain ⟨i1, i2⟩ := hi
      have c1 : dLe (.int 1) (.int i) = some (.bl true) := by simp [dLe, i1]
      have c2 : dLe (.int i) (.int 1000000) = some (.bl true) := by simp [dLe, i2]
      split at h
      · rename_i j
        split at h
        · cases h
        · rename_i hj
          cases h
          by_cases j0 : 0 ≤ j
          · have c3 : dLe (.int 0) (.int j) = some (.bl true) := by simp [dLe, j0]
            have c4 : dLt (.int j) (.int i) = some (.bl false) := by simp [dLt]; omega
            simp [m_Days___init, b_Days___init, mkF, up, sSeq, sIf, sE, mT, m2, mIxN, mNm, itemOf, M.bind, M.ret, M.opt, sSet, sOpt, setD, mB, mCons, mNil, mVar, sRetV, sRet, outs, outOf, mCall, rCons, rVar, rNil, mArV, callM, arsSV, arSV, slotsOf, putB, setCell, rvD, mBN, nmD, fz, mTOr, mTNot, mTru, dTru, mChain, sRaise, isI, ea, eb, c1, c2, c3, c4]
          · have c3 : dLe (.int 0) (.int j) = some (.bl false) := by simp [dLe, j0]
            simp [m_Days___init, b_Days___init, mkF, up, sSeq, sIf, sE, mT, m2, mIxN, mNm, itemOf, M.bind, M.ret, M.opt, sSet, sOpt, setD, mB, mCons, mNil, mVar, sRetV, sRet, outs, outOf, mCall, rCons, rVar, rNil, mArV, callM, arsSV, arSV, slotsOf, putB, setCell, rvD, mBN, nmD, fz, mTOr, mTNot, mTru, dTru, mChain, sRaise, isI, ea, eb, c1, c2, c3]
      · rename_i hj
        cases h
        have nb : isI b = false := by cases b <;> first | rfl | exact absurd rfl (hj _)
        rw [nb] at eb
        simp [m_Days___init, b_Days___init, mkF, up, sSeq, sIf, sE, mT, m2, mIxN, mNm, itemOf, M.bind, M.ret, M.opt, sSet, sOpt, setD, mB, mCons, mNil, mVar, sRetV, sRet, outs, outOf, mCall, rCons, rVar, rNil, mArV, callM, arsSV, arSV, slotsOf, putB, setCell, rvD, mBN, nmD, fz, mTOr, mTNot, mTru, dTru, mChain, sRaise, isI, ea, eb, c1, c2]
    · rename_i hi
      cases h
      by_cases i0 : 1 ≤ i
      · have c1 : dLe (.int 1) (.int i) = some (.bl true) := by simp [dLe, i0]
        have c2 : dLe (.int i) (.int 1000000) = some (.bl false) := by simp [dLe]; omega
        simp [m_Days___init, b_Days___init, mkF, up, sSeq, sIf, sE, mT, m2, mIxN, mNm, itemOf, M.bind, M.ret, M.opt, sSet, sOpt, setD, mB, mCons, mNil, mVar, sRetV, sRet, outs, outOf, mCall, rCons, rVar, rNil, mArV, callM, arsSV, arSV, slotsOf, putB, setCell, rvD, mBN, nmD, fz, mTOr, mTNot, mTru, dTru, mChain, sRaise, isI, ea, eb, c1, c2]
      · have c1 : dLe (.int 1) (.int i) = some (.bl false) := by simp [dLe, i0]
        simp [m_Days___init, b_Days___init, mkF, up, sSeq, sIf, sE, mT, m2, mIxN, mNm, itemOf, M.bind, M.ret, M.opt, sSet, sOpt, setD, mB, mCons, mNil, mVar, sRetV, sRet, outs, outOf, mCall, rCons, rVar, rNil, mArV, callM, arsSV, arSV, slotsOf, putB, setCell, rvD, mBN, nmD, fz, mTOr, mTNot, mTru, dTru, mChain, sRaise, isI, ea, eb, c1]
  · rename_i hi
    cases h
    have na : isI a = false := by cases a <;> first | rfl | exact absurd rfl (hi _)
    rw [na] at ea
    simp [m_Days___init, b_Days___init, mkF, up, sSeq, sIf, sE, mT, m2, mIxN, mNm, itemOf, M.bind, M.ret, M.opt, sSet, sOpt, setD, mB, mCons, mNil, mVar, sRetV, sRet, outs, outOf, mCall, rCons, rVar, rNil, mArV, callM, arsSV, arSV, slotsOf, putB, setCell, rvD, mBN, nmD, fz, mTOr, mTNot, mTru, dTru, mChain, sRaise, ea]
theorem init_good {len sh : Int} (h1 : 1 ≤ len) (h2 : len ≤ 1000000) (h3 : 0 ≤ sh) (h4 : sh < len) :
    m_Days___init [.bor (.ins "Days" [] []), .d (.int len), .d (.int sh)] = some (.ret (.d .non) [.bor (.ins "Days" ["length", "offset"] [.int len, .int sh]), .d (.int len), .d (.int sh)]) := by
  have ea := is_integer (d := .int len) rfl
  have eb := is_integer (d := .int sh) rfl
  have c1 : dLe (.int 1) (.int len) = some (.bl true) := by simp [dLe, h1]
  have c2 : dLe (.int len) (.int 1000000) = some (.bl true) := by simp [dLe, h2]
  have c3 : dLe (.int 0) (.int sh) = some (.bl true) := by simp [dLe, h3]
  have c4 : dLt (.int sh) (.int len) = some (.bl true) := by simp [dLt, h4]
  simp [m_Days___init, b_Days___init, mkF, up, sSeq, sIf, sE, mT, m2, mIxN, mNm, itemOf, M.bind, M.ret, M.opt, sSet, sOpt, setD, mB, mCons, mNil, mVar, sRetV, sRet, outs, outOf, mCall, rCons, rVar, rNil, mArV, callM, arsSV, arSV, slotsOf, putB, setCell, rvD, mBN, nmD, fz, mTOr, mTNot, mTru, dTru, mChain, isI, ea, eb, c1, c2, c3, c4, sPut, FL.putAt, FL.putK, FL.putD]
end Q
set_option Elab.async false
set_option linter.all false
set_option maxRecDepth 100000
set_option maxHeartbeats 1000000
namespace Q
open PySem
open PySem.Spec
open L2
open FL
def refD : Option D → D
  | none => .lst []
  | some d => .lst [d]
theorem z1 : (1 : Nat) ≤ sizeLine := by decide
theorem z0 : (0 : Nat) ≤ sizeLine := by decide
theorem z2 : (2 : Nat) ≤ sizeLine := by decide
theorem badDay_none {a b : D} (h : badDay a b = none) : ∃ len sh, a = .int len ∧ b = .int sh ∧ 1 ≤ len ∧ len ≤ 1000000 ∧ 0 ≤ sh ∧ sh < len := by
  unfold badDay at h
  split at h
  · rename_i i
    split at h
    · rename_i hi
      split at h
      · rename_i j
        split at h
        · rename_i hj
          exact ⟨i, j, rfl, rfl, hi.1, hi.2, hj.1, hj.2⟩
        · cases h
      · cases h
    · cases h
  · cases h
theorem day_refused {a b : D} (ha : plainD a = true) (hb : plainD b = true) : m_law_day_refused [.d a, .d b] = some (.ret (.d (refD (badDay a b))) [.d a, .d b]) := by
  have hx : lkX xt "BadDay" "BadDay" = some true := by decide +kernel
  have hf : ∀ d : D, fld "day" ["day"] [d] = some d := fun d => by simp [fld]
  cases h : badDay a b with
  | some d =>
    have e := init_bad ha hb h
    simp [m_law_day_refused, b_law_day_refused, mkF, up, sSeq, sIf, sE, mT, m2, mIxN, mNm, itemOf, M.bind, M.ret, M.opt, sSet, sOpt, setD, mB, mCons, mNil, mVar, sRetV, sRet, outs, outOf, mCall, rCons, rVar, rNil, mArV, callM, arsSV, arSV, slotsOf, putB, setCell, rvD, mBN, nmD, fz, mFz, mLst, z0, z1, sTryAs, sExpr, mMake, makeM, rApp, arrA, arr, e, hx, setN, mXf, hf, mapN, refD]
  | none =>
    obtain ⟨len, sh, rfl, rfl, h1, h2, h3, h4⟩ := badDay_none h
    have e := init_good h1 h2 h3 h4
    simp [m_law_day_refused, b_law_day_refused, mkF, up, sSeq, sIf, sE, mT, m2, mIxN, mNm, itemOf, M.bind, M.ret, M.opt, sSet, sOpt, setD, mB, mCons, mNil, mVar, sRetV, sRet, outs, outOf, mCall, rCons, rVar, rNil, mArV, callM, arsSV, arSV, slotsOf, putB, setCell, rvD, mBN, nmD, fz, mFz, mLst, z0, z1, sTryAs, sExpr, mMake, makeM, rApp, arrA, arr, e, frNon, refD]
theorem day_due {a b : D} (ha : plainD a = true) (hb : plainD b = true) : m_law_day_due [.d a, .d b] = some (.ret (.d (refD (badDay a b))) [.d a, .d b]) := by
  have ea := is_whole ha
  have eb := is_whole hb
  have p6 : dPow (.int 10) (.int 6) = some (.int 1000000) := rfl
  cases a with
  | int i =>
    by_cases i1 : 1 ≤ i
    · have c1 : dLe (.int 1) (.int i) = some (.bl true) := by simp [dLe, i1]
      by_cases i2 : i ≤ 1000000
      · have c2 : dLe (.int i) (.int 1000000) = some (.bl true) := by simp [dLe, i2]
        cases b with
        | int j =>
          by_cases j0 : 0 ≤ j
          · have c3 : dLe (.int 0) (.int j) = some (.bl true) := by simp [dLe, j0]
            by_cases j1 : j < i
            · have c4 : dLt (.int j) (.int i) = some (.bl true) := by simp [dLt, j1]
              simp [m_law_day_due, b_law_day_due, mkF, up, sSeq, sIf, sE, mT, m2, mIxN, mNm, itemOf, M.bind, M.ret, M.opt, sSet, sOpt, setD, mB, mCons, mNil, mVar, sRetV, sRet, outs, outOf, mCall, rCons, rVar, rNil, mArV, callM, arsSV, arSV, slotsOf, putB, setCell, rvD, mBN, nmD, fz, mTOr, mTNot, mTAnd, mIf, mTru, dTru, mChain, mFz, mLst, z0, z1, isI, ea, eb, p6, c1, c2, c3, c4, badDay, refD, i1, i2, j0, j1]
            · have c4 : dLt (.int j) (.int i) = some (.bl false) := by simp [dLt]; omega
              simp [m_law_day_due, b_law_day_due, mkF, up, sSeq, sIf, sE, mT, m2, mIxN, mNm, itemOf, M.bind, M.ret, M.opt, sSet, sOpt, setD, mB, mCons, mNil, mVar, sRetV, sRet, outs, outOf, mCall, rCons, rVar, rNil, mArV, callM, arsSV, arSV, slotsOf, putB, setCell, rvD, mBN, nmD, fz, mTOr, mTNot, mTAnd, mIf, mTru, dTru, mChain, mFz, mLst, z0, z1, isI, ea, eb, p6, c1, c2, c3, c4, badDay, refD, i1, i2, j0, j1]
          · have c3 : dLe (.int 0) (.int j) = some (.bl false) := by simp [dLe, j0]
            simp [m_law_day_due, b_law_day_due, mkF, up, sSeq, sIf, sE, mT, m2, mIxN, mNm, itemOf, M.bind, M.ret, M.opt, sSet, sOpt, setD, mB, mCons, mNil, mVar, sRetV, sRet, outs, outOf, mCall, rCons, rVar, rNil, mArV, callM, arsSV, arSV, slotsOf, putB, setCell, rvD, mBN, nmD, fz, mTOr, mTNot, mTAnd, mIf, mTru, dTru, mChain, mFz, mLst, z0, z1, isI, ea, eb, p6, c1, c2, c3, badDay, refD, i1, i2, j0]
        | _ => simp_all [m_law_day_due, b_law_day_due, mkF, up, sSeq, sIf, sE, mT, m2, mIxN, mNm, itemOf, M.bind, M.ret, M.opt, sSet, sOpt, setD, mB, mCons, mNil, mVar, sRetV, sRet, outs, outOf, mCall, rCons, rVar, rNil, mArV, callM, arsSV, arSV, slotsOf, putB, setCell, rvD, mBN, nmD, fz, mTOr, mTNot, mTAnd, mIf, mTru, dTru, mChain, mFz, mLst, z0, z1, isI, badDay, refD, plainD]
      · have c2 : dLe (.int i) (.int 1000000) = some (.bl false) := by simp [dLe]; omega
        simp [m_law_day_due, b_law_day_due, mkF, up, sSeq, sIf, sE, mT, m2, mIxN, mNm, itemOf, M.bind, M.ret, M.opt, sSet, sOpt, setD, mB, mCons, mNil, mVar, sRetV, sRet, outs, outOf, mCall, rCons, rVar, rNil, mArV, callM, arsSV, arSV, slotsOf, putB, setCell, rvD, mBN, nmD, fz, mTOr, mTNot, mTAnd, mIf, mTru, dTru, mChain, mFz, mLst, z0, z1, isI, ea, eb, p6, c1, c2, badDay, refD, i1, i2]
    · have c1 : dLe (.int 1) (.int i) = some (.bl false) := by simp [dLe, i1]
      simp [m_law_day_due, b_law_day_due, mkF, up, sSeq, sIf, sE, mT, m2, mIxN, mNm, itemOf, M.bind, M.ret, M.opt, sSet, sOpt, setD, mB, mCons, mNil, mVar, sRetV, sRet, outs, outOf, mCall, rCons, rVar, rNil, mArV, callM, arsSV, arSV, slotsOf, putB, setCell, rvD, mBN, nmD, fz, mTOr, mTNot, mTAnd, mIf, mTru, dTru, mChain, mFz, mLst, z0, z1, isI, ea, eb, p6, c1, badDay, refD, i1]
  | _ => simp_all [m_law_day_due, b_law_day_due, mkF, up, sSeq, sIf, sE, mT, m2, mIxN, mNm, itemOf, M.bind, M.ret, M.opt, sSet, sOpt, setD, mB, mCons, mNil, mVar, sRetV, sRet, outs, outOf, mCall, rCons, rVar, rNil, mArV, callM, arsSV, arSV, slotsOf, putB, setCell, rvD, mBN, nmD, fz, mTOr, mTNot, mTAnd, mIf, mTru, dTru, mChain, mFz, mLst, z0, z1, isI, badDay, refD, plainD]
end Q
set_option Elab.async false
set_option linter.all false
set_option maxRecDepth 100000
set_option maxHeartbeats 1000000
namespace Q
open PySem
open PySem.Spec
open L2
open FL
def badM (d : D) : Bool := match d with
  | .int i => !(decide (-10000000000000000000000000000000 < i) && decide (i < 10000000000000000000000000000000))
  | _ => true
theorem is_moment {d : D} (h : plainD d = true) : m_is_moment [.d d] = some (.ret (.d (.bl (!badM d))) [.d d]) := by
  have e := is_integer h
  cases d with
  | int i =>
    by_cases h1 : -10000000000000000000000000000000 < i
    · have c1 : dLt (.int (-10000000000000000000000000000000)) (.int i) = some (.bl true) := by simp [dLt, h1]
      by_cases h2 : i < 10000000000000000000000000000000
      · have c2 : dLt (.int i) (.int 10000000000000000000000000000000) = some (.bl true) := by simp [dLt, h2]
        simp [m_is_moment, b_is_moment, mkF, up, sSeq, sIf, sE, mT, m2, mIxN, mNm, itemOf, M.bind, M.ret, M.opt, sSet, sOpt, setD, mB, mCons, mNil, mVar, sRetV, sRet, outs, outOf, mCall, rCons, rVar, rNil, mArV, callM, arsSV, arSV, slotsOf, putB, setCell, rvD, mBN, nmD, fz, mAnd, mChain, isI, e, c1, c2, badM, h1, h2]
      · have c2 : dLt (.int i) (.int 10000000000000000000000000000000) = some (.bl false) := by simp [dLt]; omega
        simp [m_is_moment, b_is_moment, mkF, up, sSeq, sIf, sE, mT, m2, mIxN, mNm, itemOf, M.bind, M.ret, M.opt, sSet, sOpt, setD, mB, mCons, mNil, mVar, sRetV, sRet, outs, outOf, mCall, rCons, rVar, rNil, mArV, callM, arsSV, arSV, slotsOf, putB, setCell, rvD, mBN, nmD, fz, mAnd, mChain, isI, e, c1, c2, badM, h1, h2]
    · have c1 : dLt (.int (-10000000000000000000000000000000)) (.int i) = some (.bl false) := by simp [dLt]; omega
      simp [m_is_moment, b_is_moment, mkF, up, sSeq, sIf, sE, mT, m2, mIxN, mNm, itemOf, M.bind, M.ret, M.opt, sSet, sOpt, setD, mB, mCons, mNil, mVar, sRetV, sRet, outs, outOf, mCall, rCons, rVar, rNil, mArV, callM, arsSV, arSV, slotsOf, putB, setCell, rvD, mBN, nmD, fz, mAnd, mChain, isI, e, c1, badM, h1]
  | ty n => cases h
  | cls n => cases h
  | ins C ks fs => cases h
  | _ => simp_all [m_is_moment, b_is_moment, mkF, up, sSeq, sIf, sE, mT, m2, mIxN, mNm, itemOf, M.bind, M.ret, M.opt, sSet, sOpt, setD, mB, mCons, mNil, mVar, sRetV, sRet, outs, outOf, mCall, rCons, rVar, rNil, mArV, callM, arsSV, arSV, slotsOf, putB, setCell, rvD, mBN, nmD, fz, mAnd, mChain, isI, badM]
theorem fl_len {len sh : Int} : fld "length" ["length", "offset"] [.int len, .int sh] = some (.int len) := by simp [fld]
theorem fl_off {len sh : Int} : fld "offset" ["length", "offset"] [.int len, .int sh] = some (.int sh) := by simp [fld]
theorem hs_n : has "number" ["length", "offset"] = false := by decide +kernel
theorem hs_p : has "position" ["length", "offset"] = false := by decide +kernel
theorem hs_b : has "bounds" ["length", "offset"] = false := by decide +kernel
theorem id2 : (ids 2 : List (Arg D)) = [.inl 0, .inl 1] := rfl
theorem number_bad {len sh : Int} {d : D} (h : plainD d = true) (hb : badM d = true) : m_Days_number [.d (daysD len sh), .d d] = some (.raise ⟨"BadMoment", ["moment"], [d]⟩ [.d (daysD len sh), .d d]) := by
  have e := is_moment h
  rw [hb] at e
  simp [m_Days_number, b_Days_number, mkF, up, sSeq, sIf, sE, mT, m2, mIxN, mNm, itemOf, M.bind, M.ret, M.opt, sSet, sOpt, setD, mB, mCons, mNil, mVar, sRetV, sRet, outs, outOf, mCall, rCons, rVar, rNil, mArV, callM, arsSV, arSV, slotsOf, putB, setCell, rvD, mBN, nmD, fz, mTNot, mTru, dTru, sRaise, e]
theorem number_good {len sh m : Int} (h1 : 1 ≤ len) (h2 : len ≤ 1000000) (hb : badM (.int m) = false) : m_Days_number [.d (daysD len sh), .d (.int m)] = some (.ret (.d (.int ((m - sh) / len))) [.d (daysD len sh), .d (.int m)]) := by
  have e := is_moment (d := .int m) rfl
  rw [hb] at e
  have s1 : dSub (.int m) (.int sh) = some (.int (m - sh)) := rfl
  have f1 : dFdiv (.int (m - sh)) (.int len) = some (.int ((m - sh) / len)) := by
    have : fdivOk (m - sh) len := ⟨by omega, Nat.lt_trans (log2_lt (i := len) (n := 30) (by omega) (by decide) (by omega)) (by decide)⟩
    simp only [dFdiv, this, if_true]
  simp [m_Days_number, b_Days_number, mkF, up, sSeq, sIf, sE, mT, m2, mIxN, mNm, itemOf, M.bind, M.ret, M.opt, sSet, sOpt, setD, mB, mCons, mNil, mVar, sRetV, sRet, outs, outOf, mCall, rCons, rVar, rNil, mArV, callM, arsSV, arSV, slotsOf, putB, setCell, rvD, mBN, nmD, fz, mTNot, mTru, dTru, e, mFld, fldAt, insAt, daysD, fl_len, fl_off, s1, f1]
theorem position_bad {len sh : Int} {d : D} (h : plainD d = true) (hb : badM d = true) : m_Days_position [.d (daysD len sh), .d d] = some (.raise ⟨"BadMoment", ["moment"], [d]⟩ [.d (daysD len sh), .d d]) := by
  have e := number_bad (len := len) (sh := sh) h hb
  unfold daysD at e ⊢
  simp [m_Days_position, b_Days_position, mkF, up, sSeq, sIf, sE, mT, m2, mIxN, mNm, itemOf, M.bind, M.ret, M.opt, sSet, sOpt, setD, mB, mCons, mNil, mVar, sRetV, sRet, outs, outOf, mCall, rCons, rVar, rNil, mArV, callM, arsSV, arSV, slotsOf, putB, setCell, rvD, mBN, nmD, fz, mMeth, rowAt, insAt, hs_n, lkR, callS, arrA, arr, id2, e]
theorem abs_log {i : Int} {n : Nat} (hn : n ≠ 0) (h1 : -(2 ^ n) < i) (h2 : i < 2 ^ n) : i.natAbs.log2 < n := by
  by_cases h0 : 0 ≤ i
  · exact log2_lt h0 hn h2
  · have := log2_lt (i := -i) (n := n) (by omega) hn (by omega)
    rw [Int.natAbs_neg] at this
    exact this
theorem position_good {len sh m : Int} (h1 : 1 ≤ len) (h2 : len ≤ 1000000) (h3 : 0 ≤ sh) (h4 : sh < len) (hb : badM (.int m) = false) :
    m_Days_position [.d (daysD len sh), .d (.int m)] = some (.ret (.d (.int (m - sh - (m - sh) / len * len))) [.d (daysD len sh), .d (.int m)]) := by
  have e := number_good (sh := sh) h1 h2 hb
  have s1 : dSub (.int m) (.int sh) = some (.int (m - sh)) := rfl
  have hm : -10000000000000000000000000000000 < m ∧ m < 10000000000000000000000000000000 := by
    simp [badM] at hb
    exact hb
  have q0 : (m - sh) / len * len ≤ m - sh := Int.ediv_mul_le _ (by omega)
  have q1 : m - sh < ((m - sh) / len + 1) * len := Int.lt_ediv_add_one_mul_self _ (by omega)
  have q2 : -(2 ^ 200) < (m - sh) / len ∧ (m - sh) / len < 2 ^ 200 := by
    constructor
    · have : -(2 ^ 200 : Int) + 1 ≤ (m - sh) / len := by
        rw [Int.le_ediv_iff_mul_le (by omega)]
        have : (-(2 ^ 200 : Int) + 1) * len ≤ (-(2 ^ 200 : Int) + 1) * 1 := Int.mul_le_mul_of_nonpos_left (by decide) (by omega)
        omega
      omega
    · have : (m - sh) / len ≤ m - sh ∨ m - sh < 0 := by
        by_cases hz : 0 ≤ m - sh
        · exact .inl (Int.ediv_le_self _ hz)
        · exact .inr (by omega)
      rcases this with h | h
      · omega
      · have := Int.ediv_neg_of_neg_of_pos h (show 0 < len by omega)
        omega
  have f1 : dMulI (.int ((m - sh) / len)) (.int len) = some (.int ((m - sh) / len * len)) := by
    have l1 := abs_log (n := 200) (by decide) q2.1 q2.2
    have l2 := log2_lt (i := len) (n := 30) (by omega) (by decide) (by omega)
    have : mulOk ((m - sh) / len) len := by unfold mulOk; omega
    simp only [dMulI, this, if_true]
  have s2 : dSub (.int (m - sh)) (.int ((m - sh) / len * len)) = some (.int (m - sh - (m - sh) / len * len)) := rfl
  unfold daysD at e ⊢
  simp [m_Days_position, b_Days_position, mkF, up, sSeq, sIf, sE, mT, m2, mIxN, mNm, itemOf, M.bind, M.ret, M.opt, sSet, sOpt, setD, mB, mCons, mNil, mVar, sRetV, sRet, outs, outOf, mCall, rCons, rVar, rNil, mArV, callM, arsSV, arSV, slotsOf, putB, setCell, rvD, mBN, nmD, fz, mMeth, rowAt, insAt, hs_n, lkR, callS, arrA, arr, id2, e, mFld, fldAt, fl_len, fl_off, s1, f1, s2]
end Q
set_option Elab.async false
set_option linter.all false
set_option maxRecDepth 100000
set_option maxHeartbeats 1000000
namespace Q
open PySem
open PySem.Spec
open L2
open FL
theorem moment_refused {len sh k : Int} {d : D} (h : plainD d = true) (hb : badM d = true) : m_law_moment_refused [.d (daysD len sh), .d d, .d (.int k)] = some (.ret (.d (.lst [d])) [.d (daysD len sh), .d d, .d (.int k)]) := by
  have e1 := number_bad (len := len) (sh := sh) h hb
  have e2 := position_bad (len := len) (sh := sh) h hb
  have hx : lkX xt "BadMoment" "BadMoment" = some true := by decide +kernel
  have hf : fld "moment" ["moment"] [d] = some d := by simp [fld]
  unfold daysD at e1 e2 ⊢
  by_cases hk : k = 0
  · have c : dEq (.int k) (.int 0) = some (.bl true) := by simp [dEq, dOr, dEqS, scV, scal, hk]
    simp [m_law_moment_refused, b_law_moment_refused, mkF, up, sSeq, sIf, sE, mT, m2, mIxN, mNm, itemOf, M.bind, M.ret, M.opt, sSet, sOpt, setD, mB, mCons, mNil, mVar, sRetV, sRet, outs, outOf, mCall, rCons, rVar, rNil, mArV, callM, arsSV, arSV, slotsOf, putB, setCell, rvD, mBN, nmD, fz, mFz, mLst, z0, z1, sTryAs, sExpr, mMeth, rowAt, insAt, hs_n, hs_p, lkR, callS, arrA, arr, id2, e1, e2, hx, setN, mXf, hf, mapN, c]
  · have c : dEq (.int k) (.int 0) = some (.bl false) := by simp [dEq, dOr, dEqS, scV, scal, hk]
    simp [m_law_moment_refused, b_law_moment_refused, mkF, up, sSeq, sIf, sE, mT, m2, mIxN, mNm, itemOf, M.bind, M.ret, M.opt, sSet, sOpt, setD, mB, mCons, mNil, mVar, sRetV, sRet, outs, outOf, mCall, rCons, rVar, rNil, mArV, callM, arsSV, arSV, slotsOf, putB, setCell, rvD, mBN, nmD, fz, mFz, mLst, z0, z1, sTryAs, sExpr, mMeth, rowAt, insAt, hs_n, hs_p, lkR, callS, arrA, arr, id2, e1, e2, hx, setN, mXf, hf, mapN, c]
def near (i : Int) : Bool := decide (-1000000000000000000000000000000 ≤ i) && decide (i ≤ 1000000000000000000000000000000)
theorem ng30 : dNeg (.int 1000000000000000000000000000000) = some (.int (-1000000000000000000000000000000)) := rfl
theorem is_near {i : Int} : m_is_near [.d (.int i)] = some (.ret (.d (.bl (near i))) [.d (.int i)]) := by
  by_cases h1 : -1000000000000000000000000000000 ≤ i
  · have c1 : dLe (.int (-1000000000000000000000000000000)) (.int i) = some (.bl true) := by simp [dLe, h1]
    simp [m_is_near, b_is_near, mkF, up, sSeq, sIf, sE, mT, m2, mIxN, mNm, itemOf, M.bind, M.ret, M.opt, sSet, sOpt, setD, mB, mCons, mNil, mVar, sRetV, sRet, outs, outOf, mCall, rCons, rVar, rNil, mArV, callM, arsSV, arSV, slotsOf, putB, setCell, rvD, mBN, nmD, fz, m1, mChain, ng30, c1, near, h1, dLe]
  · have c1 : dLe (.int (-1000000000000000000000000000000)) (.int i) = some (.bl false) := by simp [dLe]; omega
    simp [m_is_near, b_is_near, mkF, up, sSeq, sIf, sE, mT, m2, mIxN, mNm, itemOf, M.bind, M.ret, M.opt, sSet, sOpt, setD, mB, mCons, mNil, mVar, sRetV, sRet, outs, outOf, mCall, rCons, rVar, rNil, mArV, callM, arsSV, arSV, slotsOf, putB, setCell, rvD, mBN, nmD, fz, m1, mChain, ng30, c1, near, h1]
theorem law_near {i : Int} : m_law_is_near [.d (.int i)] = some (.ret (.d (.bl (near i))) [.d (.int i)]) := by
  have e3 : gIsi kt ins [.int i, .ty "int"] = some (.bl true) := isi_eq (t := "int") rfl rfl (by decide +kernel)
  have e4 : gIsi kt ins [.int i, .ty "bool"] = some (.bl false) := isi_eq (t := "int") rfl rfl (by decide +kernel)
  have p30 : dPow (.int 10) (.int 30) = some (.int 1000000000000000000000000000000) := rfl
  by_cases h1 : -1000000000000000000000000000000 ≤ i
  · have c1 : dLe (.int (-1000000000000000000000000000000)) (.int i) = some (.bl true) := by simp [dLe, h1]
    simp [m_law_is_near, b_law_is_near, mkF, up, sSeq, sIf, sE, mT, m2, mIxN, mNm, itemOf, M.bind, M.ret, M.opt, sSet, sOpt, setD, mB, mCons, mNil, mVar, sRetV, sRet, outs, outOf, mCall, rCons, rVar, rNil, mArV, callM, arsSV, arSV, slotsOf, putB, setCell, rvD, mBN, nmD, fz, m1, mChain, mAnd, mNot, e3, e4, p30, ng30, c1, near, h1, dLe]
  · have c1 : dLe (.int (-1000000000000000000000000000000)) (.int i) = some (.bl false) := by simp [dLe]; omega
    simp [m_law_is_near, b_law_is_near, mkF, up, sSeq, sIf, sE, mT, m2, mIxN, mNm, itemOf, M.bind, M.ret, M.opt, sSet, sOpt, setD, mB, mCons, mNil, mVar, sRetV, sRet, outs, outOf, mCall, rCons, rVar, rNil, mArV, callM, arsSV, arSV, slotsOf, putB, setCell, rvD, mBN, nmD, fz, m1, mChain, mAnd, mNot, e3, e4, p30, ng30, c1, near, h1]
theorem edge_ok {i : Int} (h : near i = true) : m_checked_edge [.d (.int i)] = some (.ret (.d (.int i)) [.d (.int i)]) := by
  have e := is_near (i := i)
  rw [h] at e
  simp [m_checked_edge, b_checked_edge, mkF, up, sSeq, sIf, sE, mT, m2, mIxN, mNm, itemOf, M.bind, M.ret, M.opt, sSet, sOpt, setD, mB, mCons, mNil, mVar, sRetV, sRet, outs, outOf, mCall, rCons, rVar, rNil, mArV, callM, arsSV, arSV, slotsOf, putB, setCell, rvD, mBN, nmD, fz, mTNot, mTru, dTru, e]
theorem edge_bad {i : Int} (h : near i = false) : m_checked_edge [.d (.int i)] = some (.raise ⟨"TooFar", ["edge"], [.int i]⟩ [.d (.int i)]) := by
  have e := is_near (i := i)
  rw [h] at e
  simp [m_checked_edge, b_checked_edge, mkF, up, sSeq, sIf, sE, mT, m2, mIxN, mNm, itemOf, M.bind, M.ret, M.opt, sSet, sOpt, setD, mB, mCons, mNil, mVar, sRetV, sRet, outs, outOf, mCall, rCons, rVar, rNil, mArV, callM, arsSV, arSV, slotsOf, putB, setCell, rvD, mBN, nmD, fz, mTNot, mTru, dTru, sRaise, e]
def bndD (b len : Int) : D := if near b = true then (if near (b + len) = true then .tup [.int b, .int (b + len)] else .lst [.int (b + len)]) else .lst [.int b]
theorem law_bounds {len sh n : Int} (h1 : 1 ≤ len) (h2 : len ≤ 1000000) (hn1 : -(2 ^ 200) < n) (hn2 : n < 2 ^ 200) : m_law_bounds [.d (daysD len sh), .d (.int n)] = some (.ret (.d (bndD (sh + n * len) len)) [.d (daysD len sh), .d (.int n)]) := by
  have hx : lkX xt "TooFar" "TooFar" = some true := by decide +kernel
  have hf : ∀ d : D, fld "edge" ["edge"] [d] = some d := fun d => by simp [fld]
  have f1 : dMulI (.int n) (.int len) = some (.int (n * len)) := by
    have l1 := abs_log (n := 200) (by decide) hn1 hn2
    have l2 := log2_lt (i := len) (n := 30) (by omega) (by decide) (by omega)
    have : mulOk n len := by unfold mulOk; omega
    simp only [dMulI, this, if_true]
  have s1 : dAdd (.int sh) (.int (n * len)) = some (.int (sh + n * len)) := rfl
  have s2 : dAdd (.int (sh + n * len)) (.int len) = some (.int (sh + n * len + len)) := rfl
  unfold daysD
  cases q1 : near (sh + n * len) with
  | false =>
    have e1 := edge_bad q1
    simp [m_law_bounds, b_law_bounds, m_Days_bounds, b_Days_bounds, mkF, up, sSeq, sIf, sE, mT, m2, mIxN, mNm, itemOf, M.bind, M.ret, M.opt, sSet, sOpt, setD, mB, mCons, mNil, mVar, sRetV, sRet, outs, outOf, mCall, rCons, rVar, rNil, mArV, callM, arsSV, arSV, slotsOf, putB, setCell, rvD, mBN, nmD, fz, mFz, mLst, mTup, z1, z2, sTryAs, mMeth, rowAt, insAt, hs_b, lkR, callS, arrA, arr, id2, mFld, fldAt, fl_len, fl_off, f1, s1, s2, e1, hx, setN, mXf, hf, mapN, bndD, q1]
  | true =>
    have e1 := edge_ok q1
    cases q2 : near (sh + n * len + len) with
    | false =>
      have e2 := edge_bad q2
      simp [m_law_bounds, b_law_bounds, m_Days_bounds, b_Days_bounds, mkF, up, sSeq, sIf, sE, mT, m2, mIxN, mNm, itemOf, M.bind, M.ret, M.opt, sSet, sOpt, setD, mB, mCons, mNil, mVar, sRetV, sRet, outs, outOf, mCall, rCons, rVar, rNil, mArV, callM, arsSV, arSV, slotsOf, putB, setCell, rvD, mBN, nmD, fz, mFz, mLst, mTup, z1, z2, sTryAs, mMeth, rowAt, insAt, hs_b, lkR, callS, arrA, arr, id2, mFld, fldAt, fl_len, fl_off, f1, s1, s2, e1, e2, hx, setN, mXf, hf, mapN, bndD, q1, q2]
    | true =>
      have e2 := edge_ok q2
      simp [m_law_bounds, b_law_bounds, m_Days_bounds, b_Days_bounds, mkF, up, sSeq, sIf, sE, mT, m2, mIxN, mNm, itemOf, M.bind, M.ret, M.opt, sSet, sOpt, setD, mB, mCons, mNil, mVar, sRetV, sRet, outs, outOf, mCall, rCons, rVar, rNil, mArV, callM, arsSV, arSV, slotsOf, putB, setCell, rvD, mBN, nmD, fz, mFz, mLst, mTup, z1, z2, sTryAs, mMeth, rowAt, insAt, hs_b, lkR, callS, arrA, arr, id2, mFld, fldAt, fl_len, fl_off, f1, s1, s2, e1, e2, hx, setN, mXf, hf, mapN, bndD, q1, q2]
theorem bounds_due {len sh n : Int} (h1 : 1 ≤ len) (h2 : len ≤ 1000000) (hn1 : -(2 ^ 200) < n) (hn2 : n < 2 ^ 200) : m_law_bounds_due [.d (.int len), .d (.int sh), .d (.int n)] = some (.ret (.d (bndD (sh + n * len) len)) [.d (.int len), .d (.int sh), .d (.int n)]) := by
  have f1 : dMulI (.int n) (.int len) = some (.int (n * len)) := by
    have l1 := abs_log (n := 200) (by decide) hn1 hn2
    have l2 := log2_lt (i := len) (n := 30) (by omega) (by decide) (by omega)
    have : mulOk n len := by unfold mulOk; omega
    simp only [dMulI, this, if_true]
  have s1 : dAdd (.int sh) (.int (n * len)) = some (.int (sh + n * len)) := rfl
  have s2 : dAdd (.int (sh + n * len)) (.int len) = some (.int (sh + n * len + len)) := rfl
  have e1 := law_near (i := sh + n * len)
  have e2 := law_near (i := sh + n * len + len)
  cases q1 : near (sh + n * len) <;> rw [q1] at e1
  · simp [m_law_bounds_due, b_law_bounds_due, mkF, up, sSeq, sIf, sE, mT, m2, mIxN, mNm, itemOf, M.bind, M.ret, M.opt, sSet, sOpt, setD, mB, mCons, mNil, mVar, sRetV, sRet, outs, outOf, mCall, rCons, rVar, rNil, mArV, callM, arsSV, arSV, slotsOf, putB, setCell, rvD, mBN, nmD, fz, mFz, mLst, mTup, z1, z2, f1, s1, s2, e1, sFor, forL, turnL, mItems, itemsD, mTNot, mTru, dTru, bndD, q1]
  · cases q2 : near (sh + n * len + len) <;> rw [q2] at e2
    · simp [m_law_bounds_due, b_law_bounds_due, mkF, up, sSeq, sIf, sE, mT, m2, mIxN, mNm, itemOf, M.bind, M.ret, M.opt, sSet, sOpt, setD, mB, mCons, mNil, mVar, sRetV, sRet, outs, outOf, mCall, rCons, rVar, rNil, mArV, callM, arsSV, arSV, slotsOf, putB, setCell, rvD, mBN, nmD, fz, mFz, mLst, mTup, z1, z2, f1, s1, s2, e1, e2, sFor, forL, turnL, mItems, itemsD, mTNot, mTru, dTru, bndD, q1, q2]
    · simp [m_law_bounds_due, b_law_bounds_due, mkF, up, sSeq, sIf, sE, mT, m2, mIxN, mNm, itemOf, M.bind, M.ret, M.opt, sSet, sOpt, setD, mB, mCons, mNil, mVar, sRetV, sRet, outs, outOf, mCall, rCons, rVar, rNil, mArV, callM, arsSV, arSV, slotsOf, putB, setCell, rvD, mBN, nmD, fz, mFz, mLst, mTup, z1, z2, f1, s1, s2, e1, e2, sFor, forL, turnL, mItems, itemsD, mTNot, mTru, dTru, bndD, q1, q2]
end Q
set_option Elab.async false
set_option linter.all false
set_option maxRecDepth 100000
set_option maxHeartbeats 1000000
namespace Q
open PySem
open PySem.Spec
open L2
open FL
theorem dEq_int {i j : Int} : dEq (.int i) (.int j) = some (.bl (decide (i = j))) := by simp [dEq, dOr, dEqS, scV, scal]
theorem eq_days {l s l2 s2 : Int} : m_Days___eq [.d (daysD l s), .d (daysD l2 s2)] = some (.ret (.d (.bl (decide (l = l2) && decide (s = s2)))) [.d (daysD l s), .d (daysD l2 s2)]) := by
  have e : gIsi kt ins [.ins "Days" ["length", "offset"] [.int l2, .int s2], .cls "Days"] = some (.bl true) := by
    have h1 : okIns ins (.ins "Days" ["length", "offset"] [.int l2, .int s2]) = true := rfl
    have h2 : lkT kt (.o "Days") (.o "Days") = some true := by decide +kernel
    simp only [gIsi, tyN, clN, h1, if_true, h2]
    rfl
  unfold daysD
  by_cases h : l = l2
  · simp [m_Days___eq, b_Days___eq, mkF, up, sSeq, sIf, sE, mT, m2, mIxN, mNm, itemOf, M.bind, M.ret, M.opt, sSet, sOpt, setD, mB, mCons, mNil, mVar, sRetV, sRet, outs, outOf, mCall, rCons, rVar, rNil, mArV, callM, arsSV, arSV, slotsOf, putB, setCell, rvD, mBN, nmD, fz, mAnd, e, mFld, fldAt, insAt, fl_len, fl_off, dEq_int, h]
  · simp [m_Days___eq, b_Days___eq, mkF, up, sSeq, sIf, sE, mT, m2, mIxN, mNm, itemOf, M.bind, M.ret, M.opt, sSet, sOpt, setD, mB, mCons, mNil, mVar, sRetV, sRet, outs, outOf, mCall, rCons, rVar, rNil, mArV, callM, arsSV, arSV, slotsOf, putB, setCell, rvD, mBN, nmD, fz, mAnd, e, mFld, fldAt, insAt, fl_len, fl_off, dEq_int, h]
theorem eq_int {l s i : Int} : m_Days___eq [.d (daysD l s), .d (.int i)] = some (.ret (.d (.bl false)) [.d (daysD l s), .d (.int i)]) := by
  have e : gIsi kt ins [.int i, .cls "Days"] = some (.bl false) := by
    have h1 : okIns ins (.int i) = true := rfl
    have h2 : lkT kt (.b "int") (.o "Days") = some false := by decide +kernel
    simp only [gIsi, tyN, clN, h1, if_true, h2]
    rfl
  simp [m_Days___eq, b_Days___eq, mkF, up, sSeq, sIf, sE, mT, m2, mIxN, mNm, itemOf, M.bind, M.ret, M.opt, sSet, sOpt, setD, mB, mCons, mNil, mVar, sRetV, sRet, outs, outOf, mCall, rCons, rVar, rNil, mArV, callM, arsSV, arSV, slotsOf, putB, setCell, rvD, mBN, nmD, fz, mAnd, e]
theorem eq_tup {l s : Int} {xs : List D} : m_Days___eq [.d (daysD l s), .d (.tup xs)] = some (.ret (.d (.bl false)) [.d (daysD l s), .d (.tup xs)]) := by
  have e : gIsi kt ins [.tup xs, .cls "Days"] = some (.bl false) := by
    have h1 : okIns ins (.tup xs) = true := rfl
    have h2 : lkT kt (.b "tuple") (.o "Days") = some false := by decide +kernel
    simp only [gIsi, tyN, clN, h1, if_true, h2]
    rfl
  simp [m_Days___eq, b_Days___eq, mkF, up, sSeq, sIf, sE, mT, m2, mIxN, mNm, itemOf, M.bind, M.ret, M.opt, sSet, sOpt, setD, mB, mCons, mNil, mVar, sRetV, sRet, outs, outOf, mCall, rCons, rVar, rNil, mArV, callM, arsSV, arSV, slotsOf, putB, setCell, rvD, mBN, nmD, fz, mAnd, e]
abbrev er : List ERow := [⟨"Days", m_Days___eq⟩]
theorem nodata {l s : Int} {x : D} : dEq (daysD l s) x = none := by
  have h1 : dEqS (daysD l s) x = none := rfl
  have h2 : dEqP (daysD l s) x = none := by
    unfold dEqP daysD
    simp [toPy]
  simp [dEq, dOr, h1, h2]
theorem O_days {l s l2 s2 : Int} : dEqO er nf ins (daysD l s) (daysD l2 s2) = some (decide (l = l2) && decide (s = s2)) := by
  have h1 : insC (daysD l s) = some "Days" := rfl
  have h2 : tyN (daysD l2 s2) = some (.o "Days") := rfl
  have h3 : okIns ins (daysD l2 s2) = true := rfl
  have h4 : nf.contains (.o "Days") = true := by decide +kernel
  have h5 : lkE "Days" er = some ⟨"Days", m_Days___eq⟩ := rfl
  simp only [dEqO, h1, h2, h3, h4, h5, Bool.and_self, if_true, eq_days, bolR]
theorem O_int {l s i : Int} : dEqO er nf ins (daysD l s) (.int i) = some false := by
  have h1 : insC (daysD l s) = some "Days" := rfl
  have h3 : okIns ins (.int i) = true := rfl
  have h4 : nf.contains (.b "int") = true := by decide +kernel
  have h5 : lkE "Days" er = some ⟨"Days", m_Days___eq⟩ := rfl
  simp only [dEqO, h1, tyN, h3, h4, h5, Bool.and_self, if_true, eq_int, bolR]
theorem O_tup {l s : Int} {xs : List D} : dEqO er nf ins (daysD l s) (.tup xs) = some false := by
  have h1 : insC (daysD l s) = some "Days" := rfl
  have h3 : okIns ins (.tup xs) = true := rfl
  have h4 : nf.contains (.b "tuple") = true := by decide +kernel
  have h5 : lkE "Days" er = some ⟨"Days", m_Days___eq⟩ := rfl
  simp only [dEqO, h1, tyN, h3, h4, h5, Bool.and_self, if_true, eq_tup, bolR]
theorem eqG_days {l s l2 s2 : Int} : dEqG er nf ins (daysD l s) (daysD l2 s2) = some (.bl (decide (l = l2) && decide (s = s2))) := by simp [dEqG, dOr, nodata, O_days]
theorem neG_days {l s l2 s2 : Int} : dNeG er nf ins (daysD l s) (daysD l2 s2) = some (.bl (!(decide (l = l2) && decide (s = s2)))) := by simp [dNeG, dOr, dNe, dNot, nodata, O_days]
theorem eqG_int {l s i : Int} : dEqG er nf ins (daysD l s) (.int i) = some (.bl false) := by simp [dEqG, dOr, nodata, O_int]
theorem eqG_tup {l s : Int} {xs : List D} : dEqG er nf ins (daysD l s) (.tup xs) = some (.bl false) := by simp [dEqG, dOr, nodata, O_tup]
theorem eqG_ints {i j : Int} : dEqG er nf ins (.int i) (.int j) = some (.bl (decide (i = j))) := by simp [dEqG, dOr, dEq_int]
theorem neG_bl {p q : Bool} : dNeG er nf ins (.bl p) (.bl q) = some (.bl (p != q)) := by cases p <;> cases q <;> rfl
theorem bag {ns : List Int} {at_ : Nat} (h : at_ < 6) : ∃ a b : Int, m_law_bag [.d (.lst (ns.map D.int)), .d (.int (at_ : Int))] = some (.ret (.fr (.lst [.int a, .int b, .int 0])) [.d (.lst (ns.map D.int)), .d (.int (at_ : Int))]) ∧ 0 ≤ a ∧ 0 ≤ b ∧ b ≤ 2 ^ 63 + 2 ^ 62 := by
  have hlen : gLen [.lst (ns.map D.int)] = some (.int (ns.length : Int)) := by
    show (some ((ns.map D.int).length) : Option Nat).map (fun (n : Nat) => D.int (n : Int)) = _
    simp
  have hsc : isSc (.int (ns.length : Int)) = true := rfl
  have p18 : dPow (.int 10) (.int 18) = some (.int 1000000000000000000) := rfl
  have z3 : (3 : Nat) ≤ sizeLine := by decide
  have core : ∀ cell : Int, ∃ a b : Int, 0 ≤ a ∧ 0 ≤ b ∧ b ≤ 2 ^ 63 + 2 ^ 62 ∧
      (dGe (.int (if cell < 0 then -cell else cell)) (.int 1000000000000000000) = some (.bl true) ∧ a = (if cell < 0 then -cell else cell) ∨ dGe (.int (if cell < 0 then -cell else cell)) (.int 1000000000000000000) = some (.bl false) ∧ a = 0) ∧
      dMod (.int cell) (.int 2305843009213693951) = some (.int (cell % 2305843009213693951)) ∧ dMulI (.int (cell % 2305843009213693951)) (.int 5) = some (.int (cell % 2305843009213693951 * 5)) ∧ dMulI (.int 104729) (.int (at_ : Int)) = some (.int (104729 * (at_ : Int))) ∧
      b = cell % 2305843009213693951 * 5 + 104729 * (at_ : Int) + 6151 := fun cell => by
    have m1 : 0 ≤ cell % 2305843009213693951 := Int.emod_nonneg _ (by decide)
    have m2 : cell % 2305843009213693951 < 2305843009213693951 := Int.emod_lt_of_pos _ (by decide)
    have l1 := log2_lt (i := cell % 2305843009213693951) (n := 64) m1 (by decide) (by omega)
    have l5 : (5 : Int).natAbs.log2 = 2 := by decide +kernel
    have l9 : (104729 : Int).natAbs.log2 = 16 := by decide +kernel
    have la := log2_lt (i := (at_ : Int)) (n := 10) (by omega) (by decide) (by omega)
    have k1 : mulOk (cell % 2305843009213693951) 5 := by unfold mulOk; omega
    have k2 : mulOk 104729 (at_ : Int) := by unfold mulOk; omega
    by_cases hg : 1000000000000000000 ≤ (if cell < 0 then -cell else cell)
    · exact ⟨_, _, by split <;> omega, by omega, by omega, .inl ⟨by simp only [dGe, ge_iff_le, hg, decide_true], rfl⟩, by simp [dMod], by simp only [dMulI, k1, if_true], by simp only [dMulI, k2, if_true], rfl⟩
    · exact ⟨0, _, by omega, by omega, by omega, .inr ⟨by simp only [dGe, ge_iff_le, hg, decide_false], rfl⟩, by simp [dMod], by simp only [dMulI, k1, if_true], by simp only [dMulI, k2, if_true], rfl⟩
  by_cases hat : at_ < ns.length
  · have c1 : dLt (.int (at_ : Int)) (.int (ns.length : Int)) = some (.bl true) := by simp [dLt, hat]
    have ix : dIx (.lst (ns.map D.int)) (.int (at_ : Int)) = some (.int ns[at_]) := dIx_lst (by rw [List.getElem?_map, List.getElem?_eq_getElem hat]; rfl)
    obtain ⟨a, b, h1, h2, h3, h4, h5, h6, h7, h8⟩ := core ns[at_]
    refine ⟨a, b, ?_, h1, h2, h3⟩
    rcases h4 with ⟨h4, ha⟩ | ⟨h4, ha⟩ <;> simp [m_law_bag, b_law_bag, mkF, up, sSeq, sIf, sE, mT, m2, mIxN, mNm, itemOf, M.bind, M.ret, M.opt, sSet, sOpt, setD, mB, mCons, mNil, mVar, sRetV, sRet, outs, outOf, mCall, rCons, rVar, rNil, mArV, callM, arsSV, arSV, slotsOf, putB, setCell, rvD, mBN, nmD, fz, mIf, gAbs, gInt1, sRetF, mLst, z3, hlen, hsc, p18, c1, ix, h4, ha, h5, h6, h7, h8, dAdd, dOr, dAddI, dI]
  · have c1 : dLt (.int (at_ : Int)) (.int (ns.length : Int)) = some (.bl false) := by simp [dLt]; omega
    obtain ⟨_, _, _, _, _, _, _, _, h7, _⟩ := core 0
    have g1 : dGe (.int 0) (.int 1000000000000000000) = some (.bl false) := rfl
    have g2 : dMod (.int 0) (.int 2305843009213693951) = some (.int 0) := rfl
    have g3 : dMulI (.int 0) (.int 5) = some (.int 0) := rfl
    refine ⟨0, 104729 * (at_ : Int) + 6151, ?_, by omega, by omega, by omega⟩
    simp [m_law_bag, b_law_bag, mkF, up, sSeq, sIf, sE, mT, m2, mIxN, mNm, itemOf, M.bind, M.ret, M.opt, sSet, sOpt, setD, mB, mCons, mNil, mVar, sRetV, sRet, outs, outOf, mCall, rCons, rVar, rNil, mArV, callM, arsSV, arSV, slotsOf, putB, setCell, rvD, mBN, nmD, fz, mIf, gAbs, gInt1, sRetF, mLst, z3, hlen, hsc, p18, c1, g1, g2, g3, h7, dAdd, dOr, dAddI, dI]
end Q
set_option Elab.async false
set_option linter.all false
set_option maxRecDepth 100000
set_option maxHeartbeats 1000000
namespace Q
open PySem
open PySem.Spec
open L2
open FL
theorem z4 : (4 : Nat) ≤ sizeLine := by decide
theorem z17 : (17 : Nat) ≤ sizeLine := by decide
mutual
theorem okS_up : ∀ (n : Nat) (d : D), okS n d = true → okS (n + 1) d = true
  | 0, d, h => by unfold okS at h; cases h
  | n + 1, .non, _ => rfl
  | n + 1, .bl _, _ => rfl
  | n + 1, .int _, _ => rfl
  | n + 1, .str _, _ => rfl
  | n + 1, .tup xs, h => by
    unfold okS at h ⊢
    obtain ⟨h1, h2⟩ := and_tt h
    rw [h1, oksS_up n xs h2]
    rfl
  | n + 1, .lst xs, h => by
    unfold okS at h ⊢
    obtain ⟨h1, h2⟩ := and_tt h
    rw [h1, oksS_up n xs h2]
    rfl
  | n + 1, .ty _, h => by unfold okS at h; cases h
  | n + 1, .cls _, h => by unfold okS at h; cases h
  | n + 1, .ins _ _ _, h => by unfold okS at h; cases h
theorem oksS_up : ∀ (n : Nat) (xs : List D), oksS n xs = true → oksS (n + 1) xs = true
  | n, [], _ => by unfold oksS; rfl
  | n, x :: xs, h => by
    unfold oksS at h ⊢
    obtain ⟨h1, h2⟩ := and_tt h
    rw [okS_up n x h1, oksS_up n xs h2]
    rfl
end
/-- the list of odd things -/
def someL (len sh : Int) : List D := [.non, .bl true, .bl false, .int 0, .int 1, .int (-1), .int 2, .int 24, .int 1000000, .int 1000001, .str (Str.ofString "24"), .tup [.int 24], .lst [.int 1], .int len, .int (len - 1), .int sh, .int 1000000000000000000000000000000]
theorem some_plain {len sh : Int} {x : D} (h : x ∈ someL len sh) : plainD x = true ∧ okS 4 x = true := by
  simp only [someL, List.mem_cons, List.not_mem_nil, or_false] at h
  rcases h with rfl | rfl | rfl | rfl | rfl | rfl | rfl | rfl | rfl | rfl | rfl | rfl | rfl | rfl | rfl | rfl | rfl <;> exact ⟨rfl, rfl⟩
theorem step1 {n : Nat} {c : Cell} (h : Bc n c) (hn : n < 100000) : ∃ len sh c', b_law_right_1 [some (.bor c), none, none, none, none, none, none, none, none, none, none, none, none, none, none, none, none] =
    some (.nx [some (.bor c'), some (.d (.int len)), some (.d (.int sh)), none, none, none, none, none, none, none, none, none, none, none, none, none, none]) ∧ 1 ≤ len ∧ len ≤ 1000000 ∧ 0 ≤ sh ∧ sh < len ∧ Bc (n + 6) c' := by
  obtain ⟨len, sh, c', e, h1, h2, h3, h4, h5⟩ := days h (by omega)
  refine ⟨len, sh, c', ?_, h1, h2, h3, h4, h5⟩
  simp [b_law_right_1, mkF, up, sSeq, sIf, sE, mT, m2, mIxN, mNm, itemOf, M.bind, M.ret, M.opt, sSet, sOpt, setD, mB, mCons, mNil, mVar, sRetV, sRet, outs, outOf, mCall, rCons, rVar, rNil, mArV, callM, arsSV, arSV, slotsOf, putB, setCell, rvD, mBN, nmD, fz, sAsg, gsTup, gsCons, gsNil, e]
theorem step2 {len sh : Int} {c : Cell} (h1 : 1 ≤ len) (h2 : len ≤ 1000000) (h3 : 0 ≤ sh) (h4 : sh < len) : b_law_right_2 [some (.bor c), some (.d (.int len)), some (.d (.int sh)), none, none, none, none, none, none, none, none, none, none, none, none, none, none] = some (.nx [some (.bor c), some (.d (.int len)), some (.d (.int sh)), some (.d (daysD len sh)), none, none, none, none, none, none, none, none, none, none, none, none, none]) := by
  have e := init_good h1 h2 h3 h4
  simp [b_law_right_2, mkF, up, sSeq, sIf, sE, mT, m2, mIxN, mNm, itemOf, M.bind, M.ret, M.opt, sSet, sOpt, setD, mB, mCons, mNil, mVar, sRetV, sRet, outs, outOf, mCall, rCons, rVar, rNil, mArV, callM, arsSV, arSV, slotsOf, putB, setCell, rvD, mBN, nmD, fz, mFz, mMake, makeM, rApp, arrA, arr, e, frNon, daysD]
theorem step3 {len sh : Int} {c : Cell} {r : List (Option SV)} : b_law_right_3 (some (.bor c) :: some (.d (.int len)) :: some (.d (.int sh)) :: some (.d (daysD len sh)) :: r) = some (.nx (some (.bor c) :: some (.d (.int len)) :: some (.d (.int sh)) :: some (.d (daysD len sh)) :: r)) := by
  have e := strict_refl 6 (.lst [.int len, .int sh, .int 400, .int 400]) rfl
  have hM : has "MOST" ["length", "offset"] = false := by decide +kernel
  have hl : List.lookup "Days" [("Days", D.int 400)] = some (.int 400) := rfl
  unfold daysD
  simp [b_law_right_3, mkF, up, sSeq, sIf, sE, mT, m2, mIxN, mNm, itemOf, M.bind, M.ret, M.opt, sSet, sOpt, setD, mB, mCons, mNil, mVar, sRetV, sRet, outs, outOf, mCall, rCons, rVar, rNil, mArV, callM, arsSV, arSV, slotsOf, putB, setCell, rvD, mBN, nmD, fz, mFz, mLst, z4, mTNot, mTru, dTru, mFld, fldAt, insAt, fl_len, fl_off, mCls, mCon, conAt, hM, hl, e]
theorem step4 {len sh : Int} {c : Cell} : b_law_right_4 [some (.bor c), some (.d (.int len)), some (.d (.int sh)), some (.d (daysD len sh)), none, none, none, none, none, none, none, none, none, none, none, none, none] = some (.nx [some (.bor c), some (.d (.int len)), some (.d (.int sh)), some (.d (daysD len sh)), some (.d (.lst (someL len sh))), none, none, none, none, none, none, none, none, none, none, none, none]) := by
  have p6 : dPow (.int 10) (.int 6) = some (.int 1000000) := rfl
  have a1 : dAdd (.int 1000000) (.int 1) = some (.int 1000001) := rfl
  have s1 : dSub (.int len) (.int 1) = some (.int (len - 1)) := rfl
  have p30 : dPow (.int 10) (.int 30) = some (.int 1000000000000000000000000000000) := rfl
  have n1 : dNeg (.int 1) = some (.int (-1)) := rfl
  simp [b_law_right_4, mkF, up, sSeq, sIf, sE, mT, m2, mIxN, mNm, itemOf, M.bind, M.ret, M.opt, sSet, sOpt, setD, mB, mCons, mNil, mVar, sRetV, sRet, outs, outOf, mCall, rCons, rVar, rNil, mArV, callM, arsSV, arSV, slotsOf, putB, setCell, rvD, mBN, nmD, fz, mFz, mLst, mTup, m1, z17, z1, p6, a1, s1, p30, n1, someL]
theorem step5 {n : Nat} {len sh : Int} {c : Cell} (h : Bc n c) (hn : n < 200000) : ∃ one two c', b_law_right_5 [some (.bor c), some (.d (.int len)), some (.d (.int sh)), some (.d (daysD len sh)), some (.d (.lst (someL len sh))), none, none, none, none, none, none, none, none, none, none, none, none] =
    some (.nx [some (.bor c'), some (.d (.int len)), some (.d (.int sh)), some (.d (daysD len sh)), some (.d (.lst (someL len sh))), some (.d one), some (.d two), none, none, none, none, none, none, none, none, none, none]) ∧ one ∈ someL len sh ∧ two ∈ someL len sh ∧ Bc (n + 2) c' := by
  obtain ⟨one, c1, e1, h1, b1⟩ := of_ (xs := someL len sh) h (by omega) (by simp [someL]) (by simp [someL])
  obtain ⟨two, c2, e2, h2, b2⟩ := of_ (xs := someL len sh) b1 (by omega) (by simp [someL]) (by simp [someL])
  refine ⟨one, two, c2, ?_, h1, h2, b2⟩
  simp [b_law_right_5, mkF, up, sSeq, sIf, sE, mT, m2, mIxN, mNm, itemOf, M.bind, M.ret, M.opt, sSet, sOpt, setD, mB, mCons, mNil, mVar, sRetV, sRet, outs, outOf, mCall, rCons, rVar, rNil, mArV, callM, arsSV, arSV, slotsOf, putB, setCell, rvD, mBN, nmD, fz, sPar, e1, e2]
theorem refD_ok {a b : D} (ha : okS 4 a = true) (hb : okS 4 b = true) : okS 6 (refD (badDay a b)) = true := by
  have up : ∀ d : D, okS 4 d = true → okS 5 d = true := fun d h => okS_up 4 d h
  unfold badDay
  split
  · split
    · split
      · split
        · rfl
        · simp [refD, okS, oksS]
      · simp [refD, okS, oksS, up _ hb]
    · simp [refD, okS, oksS]
  · simp [refD, okS, oksS, up _ ha]
theorem pair {a b : D} {len sh : Int} {one two : D} {c : Cell} {e8 e9 e10 e11 e12 e13 e14 e15 e16 : Option SV} (ha : plainD a = true) (hb : plainD b = true) (oa : okS 4 a = true) (ob : okS 4 b = true) :
    (sIf (mTNot (mTru (mCall (m_law_is_strict 6) [] (rCons (mCall m_law_day_refused [] (rCons (mIxN 7 (M.ret (.int 0))) (rCons (mIxN 7 (M.ret (.int 1))) rNil))) (rCons (mCall m_law_day_due [] (rCons (mIxN 7 (M.ret (.int 0))) (rCons (mIxN 7 (M.ret (.int 1))) rNil))) rNil))))) (sRet (M.ret (.bl false))) (fun ev => some (.nx ev)))
      [some (.bor c), some (.d (.int len)), some (.d (.int sh)), some (.d (daysD len sh)), some (.d (.lst (someL len sh))), some (.d one), some (.d two), some (.d (.lst [a, b])), e8, e9, e10, e11, e12, e13, e14, e15, e16] =
      some (.nx [some (.bor c), some (.d (.int len)), some (.d (.int sh)), some (.d (daysD len sh)), some (.d (.lst (someL len sh))), some (.d one), some (.d two), some (.d (.lst [a, b])), e8, e9, e10, e11, e12, e13, e14, e15, e16]) := by
  have i0 : dIx (.lst [a, b]) (.int 0) = some a := rfl
  have i1 : dIx (.lst [a, b]) (.int 1) = some b := rfl
  have e1 := day_refused ha hb
  have e2 := day_due ha hb
  have e3 := strict_refl 6 _ (refD_ok oa ob)
  simp [mkF, up, sSeq, sIf, sE, mT, m2, mIxN, mNm, itemOf, M.bind, M.ret, M.opt, sSet, sOpt, setD, mB, mCons, mNil, mVar, sRetV, sRet, outs, outOf, mCall, rCons, rVar, rNil, mArV, callM, arsSV, arSV, slotsOf, putB, setCell, rvD, mBN, nmD, fz, mTNot, mTru, dTru, i0, i1, e1, e2, e3]
theorem step6 {len sh : Int} {one two : D} {c : Cell} (h1 : one ∈ someL len sh) (h2 : two ∈ someL len sh) : b_law_right_6 [some (.bor c), some (.d (.int len)), some (.d (.int sh)), some (.d (daysD len sh)), some (.d (.lst (someL len sh))), some (.d one), some (.d two), none, none, none, none, none, none, none, none, none, none] =
    some (.nx [some (.bor c), some (.d (.int len)), some (.d (.int sh)), some (.d (daysD len sh)), some (.d (.lst (someL len sh))), some (.d one), some (.d two), some (.d (.lst [.int len, .int sh])), none, none, none, none, none, none, none, none, none]) := by
  obtain ⟨p1, o1⟩ := some_plain h1
  obtain ⟨p2, o2⟩ := some_plain h2
  have n1 : dNeg (.int 1) = some (.int (-1)) := rfl
  have z7 : (7 : Nat) ≤ sizeLine := by decide
  have q1 := fun e8 e9 e10 e11 e12 e13 e14 e15 e16 => pair (a := one) (b := two) (len := len) (sh := sh) (one := one) (two := two) (c := c) (e8 := e8) (e9 := e9) (e10 := e10) (e11 := e11) (e12 := e12) (e13 := e13) (e14 := e14) (e15 := e15) (e16 := e16) p1 p2 o1 o2
  have q2 := fun e8 e9 e10 e11 e12 e13 e14 e15 e16 => pair (a := .int len) (b := two) (len := len) (sh := sh) (one := one) (two := two) (c := c) (e8 := e8) (e9 := e9) (e10 := e10) (e11 := e11) (e12 := e12) (e13 := e13) (e14 := e14) (e15 := e15) (e16 := e16) rfl p2 rfl o2
  have q3 := fun e8 e9 e10 e11 e12 e13 e14 e15 e16 => pair (a := one) (b := .int sh) (len := len) (sh := sh) (one := one) (two := two) (c := c) (e8 := e8) (e9 := e9) (e10 := e10) (e11 := e11) (e12 := e12) (e13 := e13) (e14 := e14) (e15 := e15) (e16 := e16) p1 rfl o1 rfl
  have q4 := fun (x y : Int) e8 e9 e10 e11 e12 e13 e14 e15 e16 => pair (a := .int x) (b := .int y) (len := len) (sh := sh) (one := one) (two := two) (c := c) (e8 := e8) (e9 := e9) (e10 := e10) (e11 := e11) (e12 := e12) (e13 := e13) (e14 := e14) (e15 := e15) (e16 := e16) rfl rfl rfl rfl
  have items : mItems (mTup (mCons (mFz (mLst (mCons (mVar 5) (mCons (mVar 6) mNil)))) (mCons (mFz (mLst (mCons (mVar 1) (mCons (mVar 6) mNil)))) (mCons (mFz (mLst (mCons (mVar 5) (mCons (mVar 2) mNil)))) (mCons (mFz (mLst (mCons (mVar 1) (mCons (mVar 1) mNil)))) (mCons (mFz (mLst (mCons (mVar 1) (mCons (m1 dNeg (M.ret (.int 1))) mNil)))) (mCons (mFz (mLst (mCons (M.ret (.int 1)) (mCons (M.ret (.int 0)) mNil)))) (mCons (mFz (mLst (mCons (mVar 1) (mCons (mVar 2) mNil)))) mNil)))))))) [some (.bor c), some (.d (.int len)), some (.d (.int sh)), some (.d (daysD len sh)), some (.d (.lst (someL len sh))), some (.d one), some (.d two), none, none, none, none, none, none, none, none, none, none] =
      some (.ok [.lst [one, two], .lst [.int len, two], .lst [one, .int sh], .lst [.int len, .int len], .lst [.int len, .int (-1)], .lst [.int 1, .int 0], .lst [.int len, .int sh]] [some (.bor c), some (.d (.int len)), some (.d (.int sh)), some (.d (daysD len sh)), some (.d (.lst (someL len sh))), some (.d one), some (.d two), none, none, none, none, none, none, none, none, none, none]) := by
    simp [mItems, itemsD, mTup, mFz, mLst, mCons, mNil, mVar, M.bind, M.ret, M.opt, m1, n1, z2, z7, fz]
  unfold b_law_right_6 sFor sE
  rw [items]
  simp only [forL, setD, List.getElem?_cons_succ, List.getElem?_cons_zero, List.set_cons_succ, List.set_cons_zero, q1, q2, q3, q4, turnL]
end Q
set_option Elab.async false
set_option linter.all false
set_option maxRecDepth 100000
set_option maxHeartbeats 1000000
namespace Q
open PySem
open PySem.Spec
open L2
open FL
/-- one moment's turn -/
theorem turn7 {n : Nat} {len sh : Int} {some_ one two pr tn : D} {c : Cell} {e9 e10 e11 e12 e13 e14 e15 e16 : Option SV} (h : Bc n c) (hn : n < 300000) (h1 : 1 ≤ len) (h2 : len ≤ 1000000) (h3 : 0 ≤ sh) (h4 : sh < len)
    (k9 : ∀ x, e9 ≠ some (.bor x)) (k10 : ∀ x, e10 ≠ some (.bor x)) (k11 : ∀ x, e11 ≠ some (.bor x)) : ∃ m day, ∃ c1, m_law_moment [.bor c] = some (.ret (.d (.int m)) [.bor c1]) ∧ day = (m - sh) / len ∧ badM (.int m) = false ∧ -(2 ^ 150) < day ∧ day < 2 ^ 150 ∧ Bc (n + 7) c1 := by
  obtain ⟨m, c1, e1, m1, m2, b1⟩ := moment h (by omega)
  have hm : badM (.int m) = false := by
    simp [badM, m1, m2]
  have lo : -(2 ^ 150) < (m - sh) / len := by
    have : -(2 ^ 150 : Int) + 1 ≤ (m - sh) / len := by
      rw [Int.le_ediv_iff_mul_le (by omega)]
      have : (-(2 ^ 150 : Int) + 1) * len ≤ (-(2 ^ 150 : Int) + 1) * 1 := Int.mul_le_mul_of_nonpos_left (by decide) (by omega)
      omega
    omega
  have hi : (m - sh) / len < 2 ^ 150 := by
    by_cases hz : 0 ≤ m - sh
    · have := Int.ediv_le_self len hz
      omega
    · have := Int.ediv_neg_of_neg_of_pos (show m - sh < 0 by omega) (show 0 < len by omega)
      omega
  exact ⟨m, (m - sh) / len, c1, e1, rfl, hm, lo, hi, b1⟩
def oddL : List D := [.non, .bl true, .str (Str.ofString "0"), .int 10000000000000000000000000000000, .int (-10000000000000000000000000000000), .int 10000000000000000000000000000005, .tup [.int 1], .lst [], .bl false]
theorem odd_ok {x : D} (h : x ∈ oddL) : plainD x = true ∧ okS 4 x = true ∧ badM x = true := by
  simp only [oddL, List.mem_cons, List.not_mem_nil, or_false] at h
  rcases h with rfl | rfl | rfl | rfl | rfl | rfl | rfl | rfl | rfl <;> exact ⟨rfl, rfl, rfl⟩
theorem step8 {n : Nat} {len sh : Int} {c : Cell} {e4 e5 e6 e7 e8 e9 e10 e11 : Option SV} (h : Bc n c) (hn : n < 200000) : ∃ odd c', b_law_right_8 [some (.bor c), some (.d (.int len)), some (.d (.int sh)), some (.d (daysD len sh)), e4, e5, e6, e7, e8, e9, e10, e11, none, none, none, none, none] = some (.nx [some (.bor c'), some (.d (.int len)), some (.d (.int sh)), some (.d (daysD len sh)), e4, e5, e6, e7, e8, e9, e10, e11, some (.d odd), none, none, none, none]) ∧ odd ∈ oddL ∧ Bc (n + 1) c' := by
  obtain ⟨odd, c1, e1, h1, b1⟩ := of_ (xs := oddL) h (by omega) (by simp [oddL]) (by simp [oddL])
  refine ⟨odd, c1, ?_, h1, b1⟩
  have p31 : dPow (.int 10) (.int 31) = some (.int 10000000000000000000000000000000) := rfl
  have n1 : dNeg (.int 10000000000000000000000000000000) = some (.int (-10000000000000000000000000000000)) := rfl
  have a1 : dAdd (.int 10000000000000000000000000000000) (.int 5) = some (.int 10000000000000000000000000000005) := rfl
  have z9 : (9 : Nat) ≤ sizeLine := by decide
  unfold oddL at e1
  simp [b_law_right_8, mkF, up, sSeq, sIf, sE, mT, m2, mIxN, mNm, itemOf, M.bind, M.ret, M.opt, sSet, sOpt, setD, mB, mCons, mNil, mVar, sRetV, sRet, outs, outOf, mCall, rCons, rVar, rNil, mArV, callM, arsSV, arSV, slotsOf, putB, setCell, rvD, mBN, nmD, fz, mFz, mLst, mTup, m1, z0, z1, z9, p31, n1, a1, e1]
theorem step9 {len sh : Int} {odd : D} {c : Cell} {e4 e5 e6 e7 e8 e9 e10 e11 : Option SV} (h : odd ∈ oddL) : b_law_right_9 [some (.bor c), some (.d (.int len)), some (.d (.int sh)), some (.d (daysD len sh)), e4, e5, e6, e7, e8, e9, e10, e11, some (.d odd), none, none, none, none] = some (.nx [some (.bor c), some (.d (.int len)), some (.d (.int sh)), some (.d (daysD len sh)), e4, e5, e6, e7, e8, e9, e10, e11, some (.d odd), none, none, none, none]) := by
  obtain ⟨p, o, b⟩ := odd_ok h
  have r0 := moment_refused (len := len) (sh := sh) (k := 0) p b
  have r1 := moment_refused (len := len) (sh := sh) (k := 1) p b
  have hs := strict_refl 6 (.lst [.lst [odd], .lst [odd]]) (by simp [okS, oksS, o])
  have hr : rng1 [.int 2] = some [.int 0, .int 1] := rfl
  have zz : (0 : Nat) < sizeLine := by decide
  have zz1 : (1 : Nat) < sizeLine := by decide
  simp [b_law_right_9, mkF, up, sSeq, sIf, sE, mT, m2, mIxN, mNm, itemOf, M.bind, M.ret, M.opt, sSet, sOpt, setD, mB, mCons, mNil, mVar, sRetV, sRet, outs, outOf, mCall, rCons, rVar, rNil, mArV, callM, arsSV, arSV, slotsOf, putB, setCell, rvD, mBN, nmD, fz, mFz, mLst, z1, z2, mTNot, mTru, dTru, mComp, compL, inner, noCell, wipeE, restE, turnC, mRng, hr, r0, r1, hs, zz, zz1]
theorem step10 {len sh : Int} {c : Cell} {e4 e5 e6 e7 e8 e9 e10 e11 e12 : Option SV} (h1 : 1 ≤ len) (h2 : len ≤ 1000000) : b_law_right_10 [some (.bor c), some (.d (.int len)), some (.d (.int sh)), some (.d (daysD len sh)), e4, e5, e6, e7, e8, e9, e10, e11, e12, none, none, none, none] = some (.nx [some (.bor c), some (.d (.int len)), some (.d (.int sh)), some (.d (daysD len sh)), e4, e5, e6, e7, e8, e9, e10, e11, e12, some (.d (daysD len ((sh + 1) % len))), none, none, none]) := by
  have e := init_good (sh := (sh + 1) % len) h1 h2 (Int.emod_nonneg _ (by omega)) (Int.emod_lt_of_pos _ (by omega))
  have a1 : dAdd (.int sh) (.int 1) = some (.int (sh + 1)) := rfl
  have m1' : dMod (.int (sh + 1)) (.int len) = some (.int ((sh + 1) % len)) := by
    have : 0 < len := by omega
    simp [dMod, this]
  unfold daysD
  simp [b_law_right_10, mkF, up, sSeq, sIf, sE, mT, m2, mIxN, mNm, itemOf, M.bind, M.ret, M.opt, sSet, sOpt, setD, mB, mCons, mNil, mVar, sRetV, sRet, outs, outOf, mCall, rCons, rVar, rNil, mArV, callM, arsSV, arSV, slotsOf, putB, setCell, rvD, mBN, nmD, fz, mFz, mMake, makeM, rApp, arrA, arr, a1, m1', e, frNon]
theorem twin_eq {len sh : Int} (h1 : 1 ≤ len) (h3 : 0 ≤ sh) (h4 : sh < len) : (sh = (sh + 1) % len) ↔ len = 1 := by
  by_cases h : sh + 1 = len
  · rw [h, Int.emod_self]
    omega
  · rw [Int.emod_eq_of_lt (by omega) (by omega)]
    omega
theorem step11 {len sh : Int} {c : Cell} {e4 e5 e6 e7 e8 e9 e10 e11 e12 : Option SV} (h1 : 1 ≤ len) (h3 : 0 ≤ sh) (h4 : sh < len) : b_law_right_11 [some (.bor c), some (.d (.int len)), some (.d (.int sh)), some (.d (daysD len sh)), e4, e5, e6, e7, e8, e9, e10, e11, e12, some (.d (daysD len ((sh + 1) % len))), none, none, none] = some (.nx [some (.bor c), some (.d (.int len)), some (.d (.int sh)), some (.d (daysD len sh)), e4, e5, e6, e7, e8, e9, e10, e11, e12, some (.d (daysD len ((sh + 1) % len))), none, none, none]) := by
  have t := twin_eq h1 h3 h4
  have t2 : ((sh + 1) % len = sh) ↔ len = 1 := ⟨fun z => t.mp z.symm, fun z => (t.mpr z).symm⟩
  by_cases hl : len = 1
  · have hs : sh = 0 := by omega
    subst hl hs
    have g : dGt (.int 1) (.int 1) = some (.bl false) := rfl
    simp [b_law_right_11, mkF, up, sSeq, sIf, sE, mT, m2, mIxN, mNm, itemOf, M.bind, M.ret, M.opt, sSet, sOpt, setD, mB, mCons, mNil, mVar, sRetV, sRet, outs, outOf, mCall, rCons, rVar, rNil, mArV, callM, arsSV, arSV, slotsOf, putB, setCell, rvD, mBN, nmD, fz, mTOr, eqG_days, neG_days, eqG_ints, neG_bl, g]
  · have g : dGt (.int len) (.int 1) = some (.bl true) := by simp [dGt]; omega
    simp [b_law_right_11, mkF, up, sSeq, sIf, sE, mT, m2, mIxN, mNm, itemOf, M.bind, M.ret, M.opt, sSet, sOpt, setD, mB, mCons, mNil, mVar, sRetV, sRet, outs, outOf, mCall, rCons, rVar, rNil, mArV, callM, arsSV, arSV, slotsOf, putB, setCell, rvD, mBN, nmD, fz, mTOr, eqG_days, neG_days, eqG_ints, neG_bl, t, t2, hl, g]
end Q
set_option Elab.async false
set_option linter.all false
set_option maxRecDepth 100000
set_option maxHeartbeats 1000000
namespace Q
open PySem
open PySem.Spec
open L2
open FL
theorem step12 {n : Nat} {len sh : Int} {c : Cell} {e4 e5 e6 e7 e8 e9 e10 e11 e12 e13 : Option SV} (h : Bc n c) (hn : n < 200000) (h1 : 1 ≤ len) (h2 : len ≤ 1000000) : ∃ wh c', b_law_right_12 [some (.bor c), some (.d (.int len)), some (.d (.int sh)), some (.d (daysD len sh)), e4, e5, e6, e7, e8, e9, e10, e11, e12, e13, none, none, none] = some (.nx [some (.bor c'), some (.d (.int len)), some (.d (.int sh)), some (.d (daysD len sh)), e4, e5, e6, e7, e8, e9, e10, e11, e12, e13, some (.d (.int wh)), none, none]) ∧ 1 ≤ wh ∧ wh ≤ 1000000 ∧ Bc (n + 1) c' := by
  have m1' : dMod (.int len) (.int 1000) = some (.int (len % 1000)) := by simp [dMod]
  have a1 : dAdd (.int (len % 1000)) (.int 1) = some (.int (len % 1000 + 1)) := rfl
  obtain ⟨x, c1, e1, hx, b1⟩ := of_ (xs := [.int len, .int (len % 1000 + 1)]) h (by omega) (by simp) (by simp)
  obtain ⟨wh, rfl, w1, w2⟩ : ∃ k, x = .int k ∧ 1 ≤ k ∧ k ≤ 1000000 := by
    simp only [List.mem_cons, List.not_mem_nil, or_false] at hx
    rcases hx with rfl | rfl <;> exact ⟨_, rfl, by omega, by omega⟩
  refine ⟨wh, c1, ?_, w1, w2, b1⟩
  simp [b_law_right_12, mkF, up, sSeq, sIf, sE, mT, m2, mIxN, mNm, itemOf, M.bind, M.ret, M.opt, sSet, sOpt, setD, mB, mCons, mNil, mVar, sRetV, sRet, outs, outOf, mCall, rCons, rVar, rNil, mArV, callM, arsSV, arSV, slotsOf, putB, setCell, rvD, mBN, nmD, fz, mFz, mLst, z2, m1', a1, e1]
theorem step13 {len sh : Int} {c : Cell} {e4 e5 e6 e7 e8 e9 e10 e11 e12 e13 : Option SV} {wh : Int} (h1 : 1 ≤ wh) (h2 : wh ≤ 1000000) : b_law_right_13 [some (.bor c), some (.d (.int len)), some (.d (.int sh)), some (.d (daysD len sh)), e4, e5, e6, e7, e8, e9, e10, e11, e12, e13, some (.d (.int wh)), none, none] = some (.nx [some (.bor c), some (.d (.int len)), some (.d (.int sh)), some (.d (daysD len sh)), e4, e5, e6, e7, e8, e9, e10, e11, e12, e13, some (.d (.int wh)), some (.d (daysD wh 0)), none]) := by
  have e := init_good (sh := 0) h1 h2 (by omega) (by omega)
  unfold daysD
  simp [b_law_right_13, mkF, up, sSeq, sIf, sE, mT, m2, mIxN, mNm, itemOf, M.bind, M.ret, M.opt, sSet, sOpt, setD, mB, mCons, mNil, mVar, sRetV, sRet, outs, outOf, mCall, rCons, rVar, rNil, mArV, callM, arsSV, arSV, slotsOf, putB, setCell, rvD, mBN, nmD, fz, mFz, mMake, makeM, rApp, arrA, arr, e, frNon]
theorem step14 {len sh : Int} {c : Cell} {e4 e5 e6 e7 e8 e9 e10 e11 e12 e13 : Option SV} {wh : Int} (h1 : 1 ≤ len) (h2 : len ≤ 1000000) (h3 : 0 ≤ sh) (h4 : sh < len) : b_law_right_14 [some (.bor c), some (.d (.int len)), some (.d (.int sh)), some (.d (daysD len sh)), e4, e5, e6, e7, e8, e9, e10, e11, e12, e13, some (.d (.int wh)), some (.d (daysD wh 0)), none] = some (.nx [some (.bor c), some (.d (.int len)), some (.d (.int sh)), some (.d (daysD len sh)), e4, e5, e6, e7, e8, e9, e10, e11, e12, e13, some (.d (.int wh)), some (.d (daysD wh 0)), none]) := by
  have e := init_good h1 h2 h3 h4
  have q := eqG_days (l := len) (s := sh) (l2 := len) (s2 := sh)
  have q2 := eqG_days (l := len) (s := sh) (l2 := wh) (s2 := 0)
  unfold daysD at q q2 ⊢
  by_cases w : len = wh
  · subst w
    by_cases z : sh = 0
    · subst z
      simp [b_law_right_14, mkF, up, sSeq, sIf, sE, mT, m2, mIxN, mNm, itemOf, M.bind, M.ret, M.opt, sSet, sOpt, setD, mB, mCons, mNil, mVar, sRetV, sRet, outs, outOf, mCall, rCons, rVar, rNil, mArV, callM, arsSV, arSV, slotsOf, putB, setCell, rvD, mBN, nmD, fz, mFz, mMake, makeM, rApp, arrA, arr, e, frNon, mTOr, mTNot, mAnd, eqG_ints, neG_bl, q, q2]
    · simp [b_law_right_14, mkF, up, sSeq, sIf, sE, mT, m2, mIxN, mNm, itemOf, M.bind, M.ret, M.opt, sSet, sOpt, setD, mB, mCons, mNil, mVar, sRetV, sRet, outs, outOf, mCall, rCons, rVar, rNil, mArV, callM, arsSV, arSV, slotsOf, putB, setCell, rvD, mBN, nmD, fz, mFz, mMake, makeM, rApp, arrA, arr, e, frNon, mTOr, mTNot, mAnd, eqG_ints, neG_bl, q, q2, z]
  · simp [b_law_right_14, mkF, up, sSeq, sIf, sE, mT, m2, mIxN, mNm, itemOf, M.bind, M.ret, M.opt, sSet, sOpt, setD, mB, mCons, mNil, mVar, sRetV, sRet, outs, outOf, mCall, rCons, rVar, rNil, mArV, callM, arsSV, arSV, slotsOf, putB, setCell, rvD, mBN, nmD, fz, mFz, mMake, makeM, rApp, arrA, arr, e, frNon, mTOr, mTNot, mAnd, eqG_ints, neG_bl, q, q2, w]
theorem step15 {len sh : Int} {c : Cell} {e4 e5 e6 e7 e8 e9 e10 e11 e12 e13 e14 e15 e16 : Option SV} (h1 : 1 ≤ len) (h2 : len ≤ 1000000) : b_law_right_15 [some (.bor c), some (.d (.int len)), some (.d (.int sh)), some (.d (daysD len sh)), e4, e5, e6, e7, e8, e9, e10, e11, e12, e13, e14, e15, e16] = some (.rt (.d (.bl true)) [some (.bor c), some (.d (.int len)), some (.d (.int sh)), some (.d (daysD len sh)), e4, e5, e6, e7, e8, e9, e10, e11, e12, e13, e14, e15, e16]) := by
  have p6 : dPow (.int 10) (.int 6) = some (.int 1000000) := rfl
  have m1' : dMod (.int len) (.int 1000000) = some (.int (len % 1000000)) := by simp [dMod]
  have a1 : dAdd (.int (len % 1000000)) (.int 1) = some (.int (len % 1000000 + 1)) := rfl
  have e := init_good (len := len % 1000000 + 1) (sh := 0) (by omega) (by omega) (by omega) (by omega)
  have q := neG_days (l := len) (s := sh) (l2 := len % 1000000 + 1) (s2 := 0)
  have ne : ¬ len = len % 1000000 + 1 := by omega
  have q2 := eqG_int (l := len) (s := sh) (i := len)
  have q3 := eqG_tup (l := len) (s := sh) (xs := [.int len, .int sh])
  rw [decide_eq_false ne] at q
  unfold daysD at q q2 q3 ⊢
  simp [b_law_right_15, mkF, up, sSeq, sIf, sE, mT, m2, mIxN, mNm, itemOf, M.bind, M.ret, M.opt, sSet, sOpt, setD, mB, mCons, mNil, mVar, sRetV, sRet, outs, outOf, mCall, rCons, rVar, rNil, mArV, callM, arsSV, arSV, slotsOf, putB, setCell, rvD, mBN, nmD, fz, mFz, mMake, makeM, rApp, arrA, arr, frNon, mTup, mAnd, mNot, p6, m1', a1, e, q, q2, q3, z2]
end Q
set_option Elab.async false
set_option linter.all false
set_option maxRecDepth 100000
set_option maxHeartbeats 1000000
namespace Q
open PySem
open PySem.Spec
open L2
open FL
def body7 : MS := (sSeq (sSet 9 (mCall m_law_moment [] (rVar 0 rNil))) (sSeq (sSet 10 (m2 dFdiv (m2 dSub (mVar 9) (mVar 2)) (mVar 1))) (sSeq (sIf (mTNot (mTru (mCall (m_law_is_strict 6) [] (rCons (mFz (mLst (mCons (mMeth (fun r => some (rvD r)) "number" [⟨"Days", m_Days_number, (ids 2)⟩] (1 + 0) (mArV 3) (rVar 9 rNil)) (mCons (mMeth (fun r => some (rvD r)) "position" [⟨"Days", m_Days_position, (ids 2)⟩] (1 + 0) (mArV 3) (rVar 9 rNil)) mNil)))) (rCons (mFz (mLst (mCons (mVar 10) (mCons (m2 dSub (m2 dSub (mVar 9) (mVar 2)) (m2 dMulI (mVar 10) (mVar 1))) mNil)))) rNil))))) (sRet (M.ret (.bl false))) (fun ev => some (.nx ev))) (sSeq (sIf (mTNot (mTru (mCall (m_law_is_strict 6) [] (rCons (mCall m_law_bounds [] (rVar 3 (rVar 10 rNil))) (rCons (mCall m_law_bounds_due [] (rVar 1 (rVar 2 (rVar 10 rNil)))) rNil))))) (sRet (M.ret (.bl false))) (fun ev => some (.nx ev))) (sSeq (sSet 11 (mCall m_law_of [] (rVar 0 (rCons (mFz (mLst (mCons (m2 dPow (M.ret (.int 10)) (M.ret (.int 30))) (mCons (m1 dNeg (m2 dPow (M.ret (.int 10)) (M.ret (.int 30)))) mNil)))) rNil)))) (sSeq (sSet 10 (m2 dSub (m2 dAdd (m2 dFdiv (m2 dSub (mVar 11) (mVar 2)) (mVar 1)) (mCall m_law_take [] (rVar 0 (rCons (M.ret (.int 4)) rNil)))) (M.ret (.int 2)))) (sIf (mTNot (mTru (mCall (m_law_is_strict 6) [] (rCons (mCall m_law_bounds [] (rVar 3 (rVar 10 rNil))) (rCons (mCall m_law_bounds_due [] (rVar 1 (rVar 2 (rVar 10 rNil)))) rNil))))) (sRet (M.ret (.bl false))) (fun ev => some (.nx ev)))))))))
theorem b7 : b_law_right_7 = sFor (setD 8) (mRng rng1 (mCons (M.ret (.int 4)) mNil)) body7 := rfl
end Q
set_option Elab.async false
set_option linter.all false
set_option maxRecDepth 100000
set_option maxHeartbeats 1000000
namespace Q
open PySem
open PySem.Spec
open L2
open FL
/-- nothing, or data -/
def Dt (o : Option SV) : Prop := o = none ∨ ∃ d, o = some (.d d)
theorem seq_nx {a b : MS} {ev ev' : Ev} (h : a ev = some (.nx ev')) : sSeq a b ev = b ev' := by simp [sSeq, h]
theorem mkF_rt {n N : Nat} {body : MS} {args : List SV} {r : RV} {ev : Ev} (h : args.length = n) (hb : body (up args ++ List.replicate (N - n) none) = some (.rt r ev)) : mkF n N body args = some (.ret r (outs args ev)) := by
  simp only [mkF, h, if_true, hb]
theorem z2b {len sh : Int} {day : Int} (h1 : 1 ≤ len) (h2 : len ≤ 1000000) (hd1 : -(2 ^ 150) < day) (hd2 : day < 2 ^ 150) : dMulI (.int day) (.int len) = some (.int (day * len)) := by
  have l1 := abs_log (n := 200) (by decide) (show -(2 ^ 200) < day by omega) (by omega)
  have l2 := log2_lt (i := len) (n := 30) (by omega) (by decide) (by omega)
  have : mulOk day len := by unfold mulOk; omega
  simp only [dMulI, this, if_true]
theorem fdv {x len : Int} (h1 : 1 ≤ len) (h2 : len ≤ 1000000) : dFdiv (.int x) (.int len) = some (.int (x / len)) := by
  have : fdivOk x len := ⟨by omega, Nat.lt_trans (log2_lt (i := len) (n := 30) (by omega) (by decide) (by omega)) (by decide)⟩
  simp only [dFdiv, this, if_true]
theorem bnd_okS {b l : Int} : okS 6 (bndD b l) = true := by
  unfold bndD
  split
  · split <;> rfl
  · rfl
/-- the two days' bounds are those that are due -/
theorem bcheck {len sh day : Int} {c : Cell} {e4 e5 e6 e7 e8 e9 e11 : Option SV} (h1 : 1 ≤ len) (h2 : len ≤ 1000000) (hd1 : -(2 ^ 200) < day) (hd2 : day < 2 ^ 200) :
    sIf (mTNot (mTru (mCall (m_law_is_strict 6) [] (rCons (mCall m_law_bounds [] (rVar 3 (rVar 10 rNil))) (rCons (mCall m_law_bounds_due [] (rVar 1 (rVar 2 (rVar 10 rNil)))) rNil))))) (sRet (M.ret (.bl false))) (fun ev => some (.nx ev))
      [some (.bor c), some (.d (.int len)), some (.d (.int sh)), some (.d (daysD len sh)), e4, e5, e6, e7, e8, e9, some (.d (.int day)), e11, none, none, none, none, none] =
      some (.nx [some (.bor c), some (.d (.int len)), some (.d (.int sh)), some (.d (daysD len sh)), e4, e5, e6, e7, e8, e9, some (.d (.int day)), e11, none, none, none, none, none]) := by
  have e1 := law_bounds (len := len) (sh := sh) (n := day) h1 h2 hd1 hd2
  have e2 := bounds_due (len := len) (sh := sh) (n := day) h1 h2 hd1 hd2
  have e3 := strict_refl 6 _ (bnd_okS (b := sh + day * len) (l := len))
  simp [mkF, up, sSeq, sIf, sE, mT, m2, mIxN, mNm, itemOf, M.bind, M.ret, M.opt, sSet, sOpt, setD, mB, mCons, mNil, mVar, sRetV, sRet, outs, outOf, mCall, rCons, rVar, rNil, mArV, callM, arsSV, arSV, slotsOf, putB, setCell, rvD, mBN, nmD, fz, mTNot, mTru, dTru, e1, e2, e3]
theorem step7a {n : Nat} {len sh : Int} {c : Cell} {e4 e5 e6 e7 e8 e9 e10 e11 : Option SV} (h : Bc n c) (hn : n < 300000) (h1 : 1 ≤ len) (h2 : len ≤ 1000000) (h3 : 0 ≤ sh) (h4 : sh < len) (k9 : Dt e9) (k10 : Dt e10) (k11 : Dt e11) :
    ∃ c' m day edge, body7 [some (.bor c), some (.d (.int len)), some (.d (.int sh)), some (.d (daysD len sh)), e4, e5, e6, e7, e8, e9, e10, e11, none, none, none, none, none] =
      some (.nx [some (.bor c'), some (.d (.int len)), some (.d (.int sh)), some (.d (daysD len sh)), e4, e5, e6, e7, e8, some (.d (.int m)), some (.d (.int day)), some (.d (.int edge)), none, none, none, none, none]) ∧ Bc (n + 9) c' := by
  obtain ⟨m, day, c1, em, ed, hm, d1, d2, b1⟩ := turn7 (some_ := .non) (one := .non) (two := .non) (pr := .non) (tn := .non) (e9 := none) (e10 := none) (e11 := none) (e12 := none) (e13 := none) (e14 := none) (e15 := none) (e16 := none) h hn h1 h2 h3 h4 (fun _ z => by cases z) (fun _ z => by cases z) (fun _ z => by cases z)
  have n1 := number_good (sh := sh) h1 h2 hm
  have p1 := position_good h1 h2 h3 h4 hm
  rw [← ed] at n1 p1
  have s1 : dSub (.int m) (.int sh) = some (.int (m - sh)) := rfl
  have f1 := fdv (x := m - sh) h1 h2
  rw [← ed] at f1
  have x1 := z2b (sh := sh) h1 h2 d1 d2
  have s2 : dSub (.int (m - sh)) (.int (day * len)) = some (.int (m - sh - day * len)) := rfl
  obtain ⟨x, c2, e2, hx, b2⟩ := of_ (xs := [.int 1000000000000000000000000000000, .int (-1000000000000000000000000000000)]) b1 (by omega) (by simp) (by simp)
  obtain ⟨edge, rfl, hs1, hs2⟩ : ∃ k, x = .int k ∧ -1000000000000000000000000000000 ≤ k ∧ k ≤ 1000000000000000000000000000000 := by
    simp only [List.mem_cons, List.not_mem_nil, or_false] at hx
    rcases hx with rfl | rfl <;> exact ⟨_, rfl, by omega, by omega⟩
  obtain ⟨v, c3, e3, v1, v2, b3⟩ := take (many := 4) b2 (by omega) (by decide) (by decide +kernel)
  have s3 : dSub (.int edge) (.int sh) = some (.int (edge - sh)) := rfl
  have f3 := fdv (x := edge - sh) h1 h2
  have a3 : dAdd (.int ((edge - sh) / len)) (.int v) = some (.int ((edge - sh) / len + v)) := rfl
  have s4 : dSub (.int ((edge - sh) / len + v)) (.int 2) = some (.int ((edge - sh) / len + v - 2)) := rfl
  have lo : -(2 ^ 150) < (edge - sh) / len := by
    have : -(2 ^ 150 : Int) + 1 ≤ (edge - sh) / len := by
      rw [Int.le_ediv_iff_mul_le (by omega)]
      have : (-(2 ^ 150 : Int) + 1) * len ≤ (-(2 ^ 150 : Int) + 1) * 1 := Int.mul_le_mul_of_nonpos_left (by decide) (by omega)
      omega
    omega
  have hi : (edge - sh) / len < 2 ^ 150 := by
    by_cases hz : 0 ≤ edge - sh
    · have := Int.ediv_le_self len hz
      omega
    · have := Int.ediv_neg_of_neg_of_pos (show edge - sh < 0 by omega) (show 0 < len by omega)
      omega
  refine ⟨c3, m, (edge - sh) / len + v - 2, edge, ?_, b3⟩
  have t1 : sSet 9 (mCall m_law_moment [] (rVar 0 rNil)) [some (.bor c), some (.d (.int len)), some (.d (.int sh)), some (.d (daysD len sh)), e4, e5, e6, e7, e8, e9, e10, e11, none, none, none, none, none] = some (.nx [some (.bor c1), some (.d (.int len)), some (.d (.int sh)), some (.d (daysD len sh)), e4, e5, e6, e7, e8, some (.d (.int m)), e10, e11, none, none, none, none, none]) := by
    rcases k9 with rfl | ⟨d9, rfl⟩ <;> simp [mkF, up, sSeq, sIf, sE, mT, m2, mIxN, mNm, itemOf, M.bind, M.ret, M.opt, sSet, sOpt, setD, mB, mCons, mNil, mVar, sRetV, sRet, outs, outOf, mCall, rCons, rVar, rNil, mArV, callM, arsSV, arSV, slotsOf, putB, setCell, rvD, mBN, nmD, fz, em]
  have t2 : sSet 10 (m2 dFdiv (m2 dSub (mVar 9) (mVar 2)) (mVar 1)) [some (.bor c1), some (.d (.int len)), some (.d (.int sh)), some (.d (daysD len sh)), e4, e5, e6, e7, e8, some (.d (.int m)), e10, e11, none, none, none, none, none] = some (.nx [some (.bor c1), some (.d (.int len)), some (.d (.int sh)), some (.d (daysD len sh)), e4, e5, e6, e7, e8, some (.d (.int m)), some (.d (.int day)), e11, none, none, none, none, none]) := by
    rcases k10 with rfl | ⟨d10, rfl⟩ <;> simp [mkF, up, sSeq, sIf, sE, mT, m2, mIxN, mNm, itemOf, M.bind, M.ret, M.opt, sSet, sOpt, setD, mB, mCons, mNil, mVar, sRetV, sRet, outs, outOf, mCall, rCons, rVar, rNil, mArV, callM, arsSV, arSV, slotsOf, putB, setCell, rvD, mBN, nmD, fz, s1, f1]
  have hst := strict_refl 6 (.lst [.int day, .int (m - sh - day * len)]) rfl
  have t3 : (sIf (mTNot (mTru (mCall (m_law_is_strict 6) [] (rCons (mFz (mLst (mCons (mMeth (fun r => some (rvD r)) "number" [⟨"Days", m_Days_number, (ids 2)⟩] (1 + 0) (mArV 3) (rVar 9 rNil)) (mCons (mMeth (fun r => some (rvD r)) "position" [⟨"Days", m_Days_position, (ids 2)⟩] (1 + 0) (mArV 3) (rVar 9 rNil)) mNil)))) (rCons (mFz (mLst (mCons (mVar 10) (mCons (m2 dSub (m2 dSub (mVar 9) (mVar 2)) (m2 dMulI (mVar 10) (mVar 1))) mNil)))) rNil))))) (sRet (M.ret (.bl false))) (fun ev => some (.nx ev))) [some (.bor c1), some (.d (.int len)), some (.d (.int sh)), some (.d (daysD len sh)), e4, e5, e6, e7, e8, some (.d (.int m)), some (.d (.int day)), e11, none, none, none, none, none] = some (.nx [some (.bor c1), some (.d (.int len)), some (.d (.int sh)), some (.d (daysD len sh)), e4, e5, e6, e7, e8, some (.d (.int m)), some (.d (.int day)), e11, none, none, none, none, none]) := by
    unfold daysD at n1 p1 ⊢
    simp [mkF, up, sSeq, sIf, sE, mT, m2, mIxN, mNm, itemOf, M.bind, M.ret, M.opt, sSet, sOpt, setD, mB, mCons, mNil, mVar, sRetV, sRet, outs, outOf, mCall, rCons, rVar, rNil, mArV, callM, arsSV, arSV, slotsOf, putB, setCell, rvD, mBN, nmD, fz, mTNot, mTru, dTru, mFz, mLst, mMeth, rowAt, insAt, hs_n, hs_p, lkR, callS, arrA, arr, id2, n1, p1, s1, s2, x1, hst, z2]
  have t4 := bcheck (sh := sh) (day := day) (c := c1) (e4 := e4) (e5 := e5) (e6 := e6) (e7 := e7) (e8 := e8) (e9 := some (.d (.int m))) (e11 := e11) h1 h2 (by omega) (by omega)
  have p30 : dPow (.int 10) (.int 30) = some (.int 1000000000000000000000000000000) := rfl
  have t5 : (sSet 11 (mCall m_law_of [] (rVar 0 (rCons (mFz (mLst (mCons (m2 dPow (M.ret (.int 10)) (M.ret (.int 30))) (mCons (m1 dNeg (m2 dPow (M.ret (.int 10)) (M.ret (.int 30)))) mNil)))) rNil)))) [some (.bor c1), some (.d (.int len)), some (.d (.int sh)), some (.d (daysD len sh)), e4, e5, e6, e7, e8, some (.d (.int m)), some (.d (.int day)), e11, none, none, none, none, none] = some (.nx [some (.bor c2), some (.d (.int len)), some (.d (.int sh)), some (.d (daysD len sh)), e4, e5, e6, e7, e8, some (.d (.int m)), some (.d (.int day)), some (.d (.int edge)), none, none, none, none, none]) := by
    rcases k11 with rfl | ⟨d11, rfl⟩ <;> simp [mkF, up, sSeq, sIf, sE, mT, m2, mIxN, mNm, itemOf, M.bind, M.ret, M.opt, sSet, sOpt, setD, mB, mCons, mNil, mVar, sRetV, sRet, outs, outOf, mCall, rCons, rVar, rNil, mArV, callM, arsSV, arSV, slotsOf, putB, setCell, rvD, mBN, nmD, fz, mFz, mLst, m1, p30, ng30, z2, e2]
  have t6 : (sSet 10 (m2 dSub (m2 dAdd (m2 dFdiv (m2 dSub (mVar 11) (mVar 2)) (mVar 1)) (mCall m_law_take [] (rVar 0 (rCons (M.ret (.int 4)) rNil)))) (M.ret (.int 2)))) [some (.bor c2), some (.d (.int len)), some (.d (.int sh)), some (.d (daysD len sh)), e4, e5, e6, e7, e8, some (.d (.int m)), some (.d (.int day)), some (.d (.int edge)), none, none, none, none, none] = some (.nx [some (.bor c3), some (.d (.int len)), some (.d (.int sh)), some (.d (daysD len sh)), e4, e5, e6, e7, e8, some (.d (.int m)), some (.d (.int ((edge - sh) / len + v - 2))), some (.d (.int edge)), none, none, none, none, none]) := by
    simp [mkF, up, sSeq, sIf, sE, mT, m2, mIxN, mNm, itemOf, M.bind, M.ret, M.opt, sSet, sOpt, setD, mB, mCons, mNil, mVar, sRetV, sRet, outs, outOf, mCall, rCons, rVar, rNil, mArV, callM, arsSV, arSV, slotsOf, putB, setCell, rvD, mBN, nmD, fz, s3, f3, e3, a3, s4]
  have t7 := bcheck (sh := sh) (day := (edge - sh) / len + v - 2) (c := c3) (e4 := e4) (e5 := e5) (e6 := e6) (e7 := e7) (e8 := e8) (e9 := some (.d (.int m))) (e11 := some (.d (.int edge))) h1 h2 (by omega) (by omega)
  unfold body7
  rw [seq_nx t1, seq_nx t2, seq_nx t3, seq_nx t4, seq_nx t5, seq_nx t6, t7]
theorem step7 {n : Nat} {len sh : Int} {c : Cell} {e4 e5 e6 e7 : Option SV} (h : Bc n c) (hn : n < 200000) (h1 : 1 ≤ len) (h2 : len ≤ 1000000) (h3 : 0 ≤ sh) (h4 : sh < len) :
    ∃ c' e8 e9 e10 e11, b_law_right_7 [some (.bor c), some (.d (.int len)), some (.d (.int sh)), some (.d (daysD len sh)), e4, e5, e6, e7, none, none, none, none, none, none, none, none, none] =
      some (.nx [some (.bor c'), some (.d (.int len)), some (.d (.int sh)), some (.d (daysD len sh)), e4, e5, e6, e7, e8, e9, e10, e11, none, none, none, none, none]) ∧ Bc (n + 36) c' := by
  have hr : rng1 [.int 4] = some [.int 0, .int 1, .int 2, .int 3] := rfl
  have dn : Dt none := .inl rfl
  have ds : ∀ d, Dt (some (.d d)) := fun d => .inr ⟨d, rfl⟩
  obtain ⟨c1, m1', d1, g1, q1, b1⟩ := step7a (e4 := e4) (e5 := e5) (e6 := e6) (e7 := e7) (e8 := some (.d (.int 0))) h (by omega) h1 h2 h3 h4 dn dn dn
  obtain ⟨c2, m2', d2, g2, q2, b2⟩ := step7a (e4 := e4) (e5 := e5) (e6 := e6) (e7 := e7) (e8 := some (.d (.int 1))) b1 (by omega) h1 h2 h3 h4 (ds (.int m1')) (ds (.int d1)) (ds (.int g1))
  obtain ⟨c3, m3', d3, g3, q3, b3⟩ := step7a (e4 := e4) (e5 := e5) (e6 := e6) (e7 := e7) (e8 := some (.d (.int 2))) b2 (by omega) h1 h2 h3 h4 (ds (.int m2')) (ds (.int d2)) (ds (.int g2))
  obtain ⟨c4, m4', d4, g4, q4, b4⟩ := step7a (e4 := e4) (e5 := e5) (e6 := e6) (e7 := e7) (e8 := some (.d (.int 3))) b3 (by omega) h1 h2 h3 h4 (ds (.int m3')) (ds (.int d3)) (ds (.int g3))
  refine ⟨c4, some (.d (.int 3)), some (.d (.int m4')), some (.d (.int d4)), some (.d (.int g4)), ?_, b4⟩
  rw [b7]
  simp only [sFor, sE, mRng, mCons, mNil, M.bind, M.ret, M.opt, hr, Option.map, forL, setD, turnL, List.getElem?_cons_succ, List.getElem?_cons_zero, List.set_cons_succ, List.set_cons_zero, q1, q2, q3, q4]
theorem right {n : Nat} {c : Cell} (h : Bc n c) (hn : n < 90000) : ∃ c', m_law_right [.bor c] = some (.ret (.d (.bl true)) [.bor c']) ∧ Bc (n + 100) c' := by
  obtain ⟨len, sh, c1, t1, h1, h2, h3, h4, b1⟩ := step1 h (by omega)
  have t2 := step2 (c := c1) h1 h2 h3 h4
  have t3 := step3 (len := len) (sh := sh) (c := c1) (r := [none, none, none, none, none, none, none, none, none, none, none, none, none])
  have t4 := step4 (len := len) (sh := sh) (c := c1)
  obtain ⟨one, two, c5, t5, i1, i2, b5⟩ := step5 (len := len) (sh := sh) b1 (by omega)
  have t6 := step6 (len := len) (sh := sh) (c := c5) i1 i2
  obtain ⟨c7, e8, e9, e10, e11, t7, b7⟩ := step7 (e4 := some (.d (.lst (someL len sh)))) (e5 := some (.d one)) (e6 := some (.d two)) (e7 := some (.d (.lst [.int len, .int sh]))) b5 (by omega) h1 h2 h3 h4
  obtain ⟨odd, c8, t8, i8, b8⟩ := step8 (len := len) (sh := sh) (e4 := some (.d (.lst (someL len sh)))) (e5 := some (.d one)) (e6 := some (.d two)) (e7 := some (.d (.lst [.int len, .int sh]))) (e8 := e8) (e9 := e9) (e10 := e10) (e11 := e11) b7 (by omega)
  have t9 := step9 (len := len) (sh := sh) (c := c8) (e4 := some (.d (.lst (someL len sh)))) (e5 := some (.d one)) (e6 := some (.d two)) (e7 := some (.d (.lst [.int len, .int sh]))) (e8 := e8) (e9 := e9) (e10 := e10) (e11 := e11) i8
  have t10 := step10 (len := len) (sh := sh) (c := c8) (e4 := some (.d (.lst (someL len sh)))) (e5 := some (.d one)) (e6 := some (.d two)) (e7 := some (.d (.lst [.int len, .int sh]))) (e8 := e8) (e9 := e9) (e10 := e10) (e11 := e11) (e12 := some (.d odd)) h1 h2
  have t11 := step11 (len := len) (sh := sh) (c := c8) (e4 := some (.d (.lst (someL len sh)))) (e5 := some (.d one)) (e6 := some (.d two)) (e7 := some (.d (.lst [.int len, .int sh]))) (e8 := e8) (e9 := e9) (e10 := e10) (e11 := e11) (e12 := some (.d odd)) h1 h3 h4
  obtain ⟨wh, c12, t12, w1, w2, b12⟩ := step12 (len := len) (sh := sh) (e4 := some (.d (.lst (someL len sh)))) (e5 := some (.d one)) (e6 := some (.d two)) (e7 := some (.d (.lst [.int len, .int sh]))) (e8 := e8) (e9 := e9) (e10 := e10) (e11 := e11) (e12 := some (.d odd)) (e13 := some (.d (daysD len ((sh + 1) % len)))) b8 (by omega) h1 h2
  have t13 := step13 (len := len) (sh := sh) (c := c12) (e4 := some (.d (.lst (someL len sh)))) (e5 := some (.d one)) (e6 := some (.d two)) (e7 := some (.d (.lst [.int len, .int sh]))) (e8 := e8) (e9 := e9) (e10 := e10) (e11 := e11) (e12 := some (.d odd)) (e13 := some (.d (daysD len ((sh + 1) % len)))) w1 w2
  have t14 := step14 (len := len) (sh := sh) (c := c12) (e4 := some (.d (.lst (someL len sh)))) (e5 := some (.d one)) (e6 := some (.d two)) (e7 := some (.d (.lst [.int len, .int sh]))) (e8 := e8) (e9 := e9) (e10 := e10) (e11 := e11) (e12 := some (.d odd)) (e13 := some (.d (daysD len ((sh + 1) % len)))) (wh := wh) h1 h2 h3 h4
  have t15 := step15 (len := len) (sh := sh) (c := c12) (e4 := some (.d (.lst (someL len sh)))) (e5 := some (.d one)) (e6 := some (.d two)) (e7 := some (.d (.lst [.int len, .int sh]))) (e8 := e8) (e9 := e9) (e10 := e10) (e11 := e11) (e12 := some (.d odd)) (e13 := some (.d (daysD len ((sh + 1) % len)))) (e14 := some (.d (.int wh))) (e15 := some (.d (daysD wh 0))) (e16 := none) h1 h2
  refine ⟨c12, ?_, b12.mono (by omega)⟩
  have st : up [SV.bor c] ++ List.replicate (17 - 1) none = [some (.bor c), none, none, none, none, none, none, none, none, none, none, none, none, none, none, none, none] := rfl
  refine mkF_rt (n := 1) (N := 17) (body := b_law_right) (args := [SV.bor c]) (r := .d (.bl true)) (ev := [some (.bor c12), some (.d (.int len)), some (.d (.int sh)), some (.d (daysD len sh)), some (.d (.lst (someL len sh))), some (.d one), some (.d two), some (.d (.lst [.int len, .int sh])), e8, e9, e10, e11, some (.d odd), some (.d (daysD len ((sh + 1) % len))), some (.d (.int wh)), some (.d (daysD wh 0)), none]) rfl ?_
  unfold b_law_right
  rw [st, seq_nx t1, seq_nx t2, seq_nx t3, seq_nx t4, seq_nx t5, seq_nx t6, seq_nx t7, seq_nx t8, seq_nx t9, seq_nx t10, seq_nx t11, seq_nx t12, seq_nx t13, seq_nx t14, t15]
end Q
set_option Elab.async false
set_option linter.all false
set_option maxRecDepth 100000
set_option maxHeartbeats 1000000
namespace Q
open PySem
open PySem.Spec
open L2
open FL
theorem law1 {s : SV} : b_law_1 [some s, none, none, none, none] = some (.nx [some s, some (.d (daysD 1440 0)), none, none, none]) := by
  have e := init_good (len := 1440) (sh := 0) (by omega) (by omega) (by omega) (by omega)
  unfold daysD
  simp [b_law_1, mkF, up, sSeq, sIf, sE, mT, m2, mIxN, mNm, itemOf, M.bind, M.ret, M.opt, sSet, sOpt, setD, mB, mCons, mNil, mVar, sRetV, sRet, outs, outOf, mCall, rCons, rVar, rNil, mArV, callM, arsSV, arSV, slotsOf, putB, setCell, rvD, mBN, nmD, fz, mFz, mMake, makeM, arrA, arr, e, frNon]
theorem law2 {s : SV} : b_law_2 [some s, some (.d (daysD 1440 0)), none, none, none] = some (.nx [some s, some (.d (daysD 1440 0)), none, none, none]) := by
  have e := init_good (len := 1440) (sh := 0) (by omega) (by omega) (by omega) (by omega)
  have hs := strict_refl 6 (.lst [.int 1440, .int 0]) rfl
  have q := neG_days (l := 1440) (s := 0) (l2 := 1440) (s2 := 0)
  unfold daysD at q ⊢
  simp [b_law_2, mkF, up, sSeq, sIf, sE, mT, m2, mIxN, mNm, itemOf, M.bind, M.ret, M.opt, sSet, sOpt, setD, mB, mCons, mNil, mVar, sRetV, sRet, outs, outOf, mCall, rCons, rVar, rNil, mArV, callM, arsSV, arSV, slotsOf, putB, setCell, rvD, mBN, nmD, fz, mFz, mLst, z2, mTOr, mTNot, mTru, dTru, mFld, fldAt, insAt, fl_len, fl_off, mMake, makeM, rApp, arrA, arr, e, frNon, hs, q]
/-- nothing, data, or a list of the frame's own -/
def Ow (o : Option SV) : Prop := o = none ∨ ∃ c, o = some (.own c)
theorem turn1 {n : Nat} {c : Cell} {s p e2 e4 : Option SV} (h : Bc n c) (hn : n < 90000) : ∃ c', sIf (mTNot (mTru (mCall m_law_right [] (rVar 3 rNil)))) (sRet (M.ret (.bl false))) (fun ev => some (.nx ev)) [s, p, e2, some (.own c), e4] = some (.nx [s, p, e2, some (.own c'), e4]) ∧ Bc (n + 100) c' := by
  obtain ⟨c', e, b⟩ := right h hn
  refine ⟨c', ?_, b⟩
  simp [mkF, up, sSeq, sIf, sE, mT, m2, mIxN, mNm, itemOf, M.bind, M.ret, M.opt, sSet, sOpt, setD, mB, mCons, mNil, mVar, sRetV, sRet, outs, outOf, mCall, rCons, rVar, rNil, mArV, callM, arsSV, arSV, slotsOf, putB, setCell, rvD, mBN, nmD, fz, mTNot, mTru, dTru, e]
def lawB : MS := (sSeq (sSetF 3 (mCallF m_law_bag [] (rVar 0 (rVar 2 rNil)))) (sFor (setD 4) (mRng rng1 (mCons (M.ret (.int 2)) mNil)) (sIf (mTNot (mTru (mCall m_law_right [] (rVar 3 rNil)))) (sRet (M.ret (.bl false))) (fun ev => some (.nx ev)))))
theorem cell1 {ns : List Int} {i : Nat} {p e3 e4 : Option SV} (hi : i < 6) (h3 : Ow e3) (h4 : Dt e4) : ∃ c', lawB [some (.d (.lst (ns.map D.int))), p, some (.d (.int (i : Int))), e3, e4] = some (.nx [some (.d (.lst (ns.map D.int))), p, some (.d (.int (i : Int))), some (.own c'), some (.d (.int 1))]) := by
  obtain ⟨a, b, e, a0, b0, b1⟩ := bag (ns := ns) hi
  have hb : Bc 0 (.lst [.int a, .int b, .int 0]) := ⟨a, b, 0, rfl, a0, b0, b1, by omega, by omega⟩
  obtain ⟨c1, q1, g1⟩ := turn1 (s := some (.d (.lst (ns.map D.int)))) (p := p) (e2 := some (.d (.int (i : Int)))) (e4 := some (.d (.int 0))) hb (by omega)
  obtain ⟨c2, q2, g2⟩ := turn1 (s := some (.d (.lst (ns.map D.int)))) (p := p) (e2 := some (.d (.int (i : Int)))) (e4 := some (.d (.int 1))) g1 (by omega)
  refine ⟨c2, ?_⟩
  have t1 : sSetF 3 (mCallF m_law_bag [] (rVar 0 (rVar 2 rNil))) [some (.d (.lst (ns.map D.int))), p, some (.d (.int (i : Int))), e3, e4] = some (.nx [some (.d (.lst (ns.map D.int))), p, some (.d (.int (i : Int))), some (.own (.lst [.int a, .int b, .int 0])), e4]) := by
    rcases h3 with rfl | ⟨c0, rfl⟩ <;> simp [mkF, up, sSeq, sIf, sE, mT, m2, mIxN, mNm, itemOf, M.bind, M.ret, M.opt, sSet, sOpt, setD, mB, mCons, mNil, mVar, sRetV, sRet, outs, outOf, mCall, rCons, rVar, rNil, mArV, callM, arsSV, arSV, slotsOf, putB, setCell, rvD, mBN, nmD, fz, sSetF, setO, mCallF, frC, e]
  have hr : rng1 [.int 2] = some [.int 0, .int 1] := rfl
  have t2 : sFor (setD 4) (mRng rng1 (mCons (M.ret (.int 2)) mNil)) (sIf (mTNot (mTru (mCall m_law_right [] (rVar 3 rNil)))) (sRet (M.ret (.bl false))) (fun ev => some (.nx ev))) [some (.d (.lst (ns.map D.int))), p, some (.d (.int (i : Int))), some (.own (.lst [.int a, .int b, .int 0])), e4] = some (.nx [some (.d (.lst (ns.map D.int))), p, some (.d (.int (i : Int))), some (.own c2), some (.d (.int 1))]) := by
    rcases h4 with rfl | ⟨d4, rfl⟩ <;> simp only [sFor, sE, mRng, mCons, mNil, M.bind, M.ret, M.opt, hr, Option.map, forL, setD, turnL, List.getElem?_cons_succ, List.getElem?_cons_zero, List.set_cons_succ, List.set_cons_zero, q1, q2]
  unfold lawB
  rw [seq_nx t1, t2]
theorem law3 {ns : List Int} (hl : ns.length ≤ 63) : ∃ e2 e3 e4, b_law_3 [some (.d (.lst (ns.map D.int))), some (.d (daysD 1440 0)), none, none, none] = some (.nx [some (.d (.lst (ns.map D.int))), some (.d (daysD 1440 0)), e2, e3, e4]) := by
  have hlen : gLen [.lst (ns.map D.int)] = some (.int (ns.length : Int)) := by
    show (some ((ns.map D.int).length) : Option Nat).map (fun (n : Nat) => D.int (n : Int)) = _
    simp
  have hsc : isSc (.int (ns.length : Int)) = true := rfl
  obtain ⟨k, hk, hk6⟩ : ∃ k : Nat, (if (if (ns.length : Int) < 6 then (ns.length : Int) else 6) > 1 then (if (ns.length : Int) < 6 then (ns.length : Int) else 6) else 1) = (k : Int) ∧ k ≤ 6 := by
    by_cases h1 : ns.length < 6
    · by_cases h2 : 1 < ns.length
      · exact ⟨ns.length, by rw [if_pos (show (ns.length : Int) < 6 by omega), if_pos (by omega)], by omega⟩
      · exact ⟨1, by rw [if_pos (show (ns.length : Int) < 6 by omega), if_neg (by omega)]; rfl, by omega⟩
    · exact ⟨6, by rw [if_neg (show ¬ (ns.length : Int) < 6 by omega), if_pos (by omega)]; rfl, by omega⟩
  have hmin : gMin2 [.int 6, .int (ns.length : Int)] = some (.int (if (ns.length : Int) < 6 then (ns.length : Int) else 6)) := rfl
  have hmax : gMax2 [.int 1, .int (if (ns.length : Int) < 6 then (ns.length : Int) else 6)] = some (.int (k : Int)) := by rw [← hk]; rfl
  have hr : rng1 [.int (k : Int)] = some ((List.range k).map fun (i : Nat) => D.int (0 + (i : Int))) := by
    have h1 : -(2 ^ 62 : Int) ≤ (k : Int) := by omega
    have h2 : (k : Int) < 2 ^ 62 := by omega
    simp only [rng1, h1, h2, and_self, if_true, Int.toNat_natCast]
  have items : mRng rng1 (mCons (mB gMax2 (mCons (M.ret (.int 1)) (mCons (mB gMin2 (mCons (M.ret (.int 6)) (mCons (mBN gLen 0) mNil))) mNil))) mNil) [some (.d (.lst (ns.map D.int))), some (.d (daysD 1440 0)), none, none, none] = some (.ok ((List.range k).map fun (i : Nat) => D.int (0 + (i : Int))) [some (.d (.lst (ns.map D.int))), some (.d (daysD 1440 0)), none, none, none]) := by
    generalize hev : [some (SV.d (.lst (ns.map D.int))), some (SV.d (daysD 1440 0)), none, none, none] = ev
    have a1 : mBN gLen 0 ev = some (.ok (.int (ns.length : Int)) ev) := by
      rw [← hev]
      simp only [mBN, nmD, List.getElem?_cons_zero, hlen, hsc, if_true]
    have a2 : mB gMin2 (mCons (M.ret (.int 6)) (mCons (mBN gLen 0) mNil)) ev = some (.ok (.int (if (ns.length : Int) < 6 then (ns.length : Int) else 6)) ev) := by simp only [mB, mCons, mNil, M.bind, M.ret, M.opt, a1, hmin, Option.map]
    have a3 : mB gMax2 (mCons (M.ret (.int 1)) (mCons (mB gMin2 (mCons (M.ret (.int 6)) (mCons (mBN gLen 0) mNil))) mNil)) ev = some (.ok (.int (k : Int)) ev) := by
      generalize mB gMin2 (mCons (M.ret (.int 6)) (mCons (mBN gLen 0) mNil)) = mm at a2
      simp only [mB, mCons, mNil, M.bind, M.ret, M.opt, a2, hmax, Option.map]
    generalize mB gMax2 (mCons (M.ret (.int 1)) (mCons (mB gMin2 (mCons (M.ret (.int 6)) (mCons (mBN gLen 0) mNil))) mNil)) = mm at a3
    have key : ∀ (f : List D → Option (List D)) (xs : List D), f [.int (k : Int)] = some xs → mRng f (mCons mm mNil) ev = some (.ok xs ev) := fun f xs h => by
      simp only [mRng, mCons, mNil, M.bind, M.ret, M.opt, a3, h, Option.map]
    exact key _ _ hr
  obtain ⟨ev', e1, j⟩ := forL_inv (gs := setD 2) (cb := lawB) (J := fun _ ev => ∃ e2 e3 e4, ev = [some (.d (.lst (ns.map D.int))), some (.d (daysD 1440 0)), e2, e3, e4] ∧ Dt e2 ∧ Ow e3 ∧ Dt e4) (xs := (List.range k).map fun (i : Nat) => D.int (0 + (i : Int))) (i := 0) (ev := [some (.d (.lst (ns.map D.int))), some (.d (daysD 1440 0)), none, none, none])
    ⟨none, none, none, rfl, .inl rfl, .inl rfl, .inl rfl⟩ (fun i x ev hx hj => by
      obtain ⟨e2, e3, e4, rfl, h2, h3, h4⟩ := hj
      have hi : i < k := by
        have := (List.getElem?_eq_some_iff.mp hx).1
        simpa using this
      have hxx : x = .int (i : Int) := by
        rw [List.getElem?_map, List.getElem?_range hi] at hx
        have := Option.some.inj hx
        rw [← this]
        simp
      subst hxx
      obtain ⟨c', q⟩ := cell1 (ns := ns) (i := i) (p := some (.d (daysD 1440 0))) (e3 := e3) (e4 := e4) (by omega) h3 h4
      refine ⟨_, _, ?_, .inl q, _, _, _, rfl, .inr ⟨_, rfl⟩, .inr ⟨_, rfl⟩, .inr ⟨_, rfl⟩⟩
      rcases h2 with rfl | ⟨d2, rfl⟩ <;> rfl)
  obtain ⟨e2, e3, e4, rfl, _⟩ := j
  refine ⟨e2, e3, e4, ?_⟩
  show sFor (setD 2) _ lawB _ = _
  unfold sFor sE
  rw [items]
  exact e1
theorem math0 (ns : List Int) (h : ns.length ≤ 63) : ∃ out, m_law [.d (.lst (ns.map D.int))] = some (.ret (.d (.bl true)) out) := by
  obtain ⟨e2, e3, e4, t3⟩ := law3 h
  refine ⟨[.d (.lst (ns.map D.int))], ?_⟩
  have st : up [SV.d (.lst (ns.map D.int))] ++ List.replicate (5 - 1) none = [some (.d (.lst (ns.map D.int))), none, none, none, none] := rfl
  refine mkF_rt (ev := [some (.d (.lst (ns.map D.int))), some (.d (daysD 1440 0)), e2, e3, e4]) rfl ?_
  unfold b_law
  rw [st, seq_nx law1, seq_nx law2, seq_nx t3]
  rfl
end Q
set_option Elab.async false
set_option linter.all false
set_option maxRecDepth 100000
set_option maxHeartbeats 0
namespace Q
open PySem
open PySem.Spec
open L2
open FL
def nm0 : List Str := [(Str.ofString "_wall"), (Str.ofString "BadMoment"), (Str.ofString "BadDay"), (Str.ofString "TooFar"), (Str.ofString "FIRST"), (Str.ofString "LAST"), (Str.ofString "MOST"), (Str.ofString "is_integer"), (Str.ofString "is_near"), (Str.ofString "is_moment"), (Str.ofString "LONGEST"), (Str.ofString "checked_edge"), (Str.ofString "Days"), (Str.ofString "_law_bag"), (Str.ofString "_law_take"), (Str.ofString "_law_of"), (Str.ofString "_law_number"), (Str.ofString "_law_is_strict"), (Str.ofString "_law_is_near"), (Str.ofString "_law_days"), (Str.ofString "_law_is_whole"), (Str.ofString "_law_day_refused"), (Str.ofString "_law_day_due"), (Str.ofString "_law_moment_refused"), (Str.ofString "_law_bounds"), (Str.ofString "_law_bounds_due"), (Str.ofString "_law_moment"), (Str.ofString "_law_right")]
def loose : List Str := nm0
abbrev Rw : PySem.W.OpenRow := PySem.W.OpenLaw.row PySem.Challenge.rw_spanloops_k87_days_made
abbrev hk : PySem.W.Hook := hookF 6 fa fn fx
def ob (s : PySem.W.SharedT) : AlF := obsF 6 fa fn fx (HandSHeadRun.getT s)
theorem ob_eq (s : PySem.W.SharedT) : ob s = hk.obs s.abs := obsF_eq (HandSHeadRun.getT_eq s)
theorem run (w : World) : HandSHeadRun.RunEq Rw (PySem.W.view Rw.prog [32]) hk ob 3000 loose w := by
  intro os
  kernel_rfl
theorem math (ns : List Int) (h : ns.length ≤ 63) : ∃ out, m_law [.d (.lst (ns.map D.int))] = some (.ret (.d (.bl true)) out) := by
  exact math0 ns h
end Q
open PySem
open PySem.W
open PySem.Calls
open PyProof.Rows
theorem PySem.Challenge.cw_spanloops_k87_days_made_holds : PySem.Challenge.rw_spanloops_k87_days_made.Holds := by
  w_on
  o_law
  refine HandSHeadRun.head_any (r := OpenLaw.row PySem.Challenge.rw_spanloops_k87_days_made) (q := view (OpenLaw.row PySem.Challenge.rw_spanloops_k87_days_made).prog [32]) (H := Q.hk) (ob := Q.ob) (M := 3000) (loose := Q.loose) (d := HandSHeadRun.topDef (OpenLaw.row PySem.Challenge.rw_spanloops_k87_days_made).prog 32) (kwd := []) Q.ob_eq
    (by kernel_rfl) (fun s => by kernel_rfl) Q.run (by kernel_rfl) (by kernel_rfl) (by kernel_rfl) (by rfl) (by first | assumption | decide +kernel) (by decide +kernel) ⟨rfl, rfl, rfl, rfl, rfl, by decide +kernel⟩ ?hw ?hc
  case hw => w_witness2
  case hc =>
    refine FL.walk_in (l := PySem.Challenge.rw_spanloops_k87_days_made) (k := 9) (y := "script") rfl (by kernel_rfl) ⟨rfl, by decide, by decide⟩ ?F
    intro w mg fa h Y G hmg0
    obtain ⟨K, KX, c⟩ := Y
    have hmg : mg ("law" : PySem.Str) = some (.ref fa) := by
      have e : (HandSHeadRun.topDef (OpenLaw.row PySem.Challenge.rw_spanloops_k87_days_made).prog 32).name = ("law" : PySem.Str) := by kernel_rfl
      rw [← e]
      exact hmg0
    exact FL.law_end (P := (PySem.Challenge.rw_spanloops_k87_days_made).prog) (w := w) (y := "script") KX hmg (He.glo_ok KX G (c.d.fact 46 (f := .glo "law") rfl)) (fun base => Q.e_law (base := base) KX G c) (fun _ _ _ _ _ _ us hl => match us, hl with | [_], _ => rfl) Q.math
