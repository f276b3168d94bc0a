import PyProof.Rows.All
import Wide.All
import OpenK.AllK
import Wide.FinOn
import HandS.ForMost
import HandS.ForExc
import HandS.HeadHook1
import HandS.Wide
import HandS.IsInst
import HandS.TupAny
import HandS.ClsMeth
import HandS.CallSlots
import HandS.Defaults
import HandS.HeadHook2
import HandS.MakeKwOnly
import HandS.HotCalls
import KE.KExcInit
import HandS.ExcInit
import HandS.ExcValue
import HandS.ExcField
import HandS.TryMany
import HandS.OwnEq
import HandS.NamedTupSort
import PyProof.InstNe
import HandS.Head0
import HandS.Head1
import HandS.Head2
import HandS.HeadEnd
import KE.KStateDown
import HandS.StrMore
import HandS.Sort
import HandS.Deep
import PyProof.StrOps2
import HandS.TryOnly
import PyProof.Rows.RegStrFacts
import PyProof.StrLawsTight
import PyProof.StrLawsFirst
import PyProof.StrLawsAffix
import KE.IntTextLaws
import KE.GoesMore
import HandS.SortRule
import PySem.Challenge.RW_spanloops_k91_days_drawn
set_option Elab.async false
set_option linter.all false
set_option maxRecDepth 100000
namespace FL
open PySem
open PySem.Spec
open L2
/-- immutable data -/
inductive D where
  | non | bl (b : Bool) | int (i : Int) | str (x : Str) | ty (n : String)
  | tup (xs : List D) | lst (xs : List D) | ins (C : String) (ks : List String) (fs : List D) | cls (C : String)
/-- a class's address, names as the model has them -/
def cad (K : PySem.W.Frag) (C : String) : Addr := He.ga K (Str.ofString C)
def nms (ks : List String) : List Str := ks.map Str.ofString
mutual
def R (K : PySem.W.Frag) (I : Hp) : D → V → Prop
  | .non, v => v = .non
  | .bl b, v => v = .bl b
  | .int i, v => v = .int i
  | .str x, v => v = .str x
  | .ty n, v => v = .ty n
  | .cls C, v => v = .ref (cad K C)
  | .tup xs, v => ∃ a vs, v = .ref a ∧ SqT K I a vs ∧ Rs K I xs vs
  | .lst xs, v => ∃ a vs, v = .ref a ∧ SqL K I a vs ∧ Rs K I xs vs
  | .ins C ks fs, v => ∃ a dx vs, v = .ref a ∧ I a = some (.ins (cad K C) dx ((nms ks).zip vs)) ∧ ks.length = vs.length ∧ Rs K I fs vs
def Rs (K : PySem.W.Frag) (I : Hp) : List D → List V → Prop
  | [], vs => vs = []
  | x :: xs, vs => ∃ v r, vs = v :: r ∧ R K I x v ∧ Rs K I xs r
end
/-- one heap lies within another -/
def Le (I J : Hp) : Prop := ∀ a o, I a = some o → J a = some o
theorem Le.refl (I : Hp) : Le I I := fun _ _ h => h
theorem Le.trans {I J L : Hp} (a : Le I J) (b : Le J L) : Le I L := fun x o h => b x o (a x o h)
theorem Le.rd {I J : Hp} (l : Le I J) {a : Addr} {u : HO} (h : Rd I a u) : Rd J a u := by
  rcases h with h | ⟨o, h⟩
  · exact .inl (l _ _ h)
  · exact .inr ⟨o, l _ _ h⟩
theorem Le.sqT {K : PySem.W.Frag} {I J : Hp} (l : Le I J) {a : Addr} {xs : List V} (h : SqT K I a xs) : SqT K J a xs := by
  rcases h with h | h
  · exact .inl (l.rd h)
  · exact .inr h
theorem Le.sqL {K : PySem.W.Frag} {I J : Hp} (l : Le I J) {a : Addr} {xs : List V} (h : SqL K I a xs) : SqL K J a xs := by
  rcases h with h | h
  · exact .inl (l.rd h)
  · exact .inr h
mutual
theorem R.mono {K : PySem.W.Frag} {I J : Hp} (l : Le I J) : ∀ (d : D) (v : V), R K I d v → R K J d v
  | .non, _, h => by unfold R at h ⊢; exact h
  | .bl _, _, h => by unfold R at h ⊢; exact h
  | .int _, _, h => by unfold R at h ⊢; exact h
  | .str _, _, h => by unfold R at h ⊢; exact h
  | .ty _, _, h => by unfold R at h ⊢; exact h
  | .cls _, _, h => by unfold R at h ⊢; exact h
  | .tup xs, v, h => by
    unfold R at h ⊢
    obtain ⟨a, vs, e, s, r⟩ := h
    exact ⟨a, vs, e, l.sqT s, Rs.mono l xs vs r⟩
  | .lst xs, v, h => by
    unfold R at h ⊢
    obtain ⟨a, vs, e, s, r⟩ := h
    exact ⟨a, vs, e, l.sqL s, Rs.mono l xs vs r⟩
  | .ins C ks fs, v, h => by
    unfold R at h ⊢
    obtain ⟨a, dx, vs, e, s, n, r⟩ := h
    exact ⟨a, dx, vs, e, l _ _ s, n, Rs.mono l fs vs r⟩
theorem Rs.mono {K : PySem.W.Frag} {I J : Hp} (l : Le I J) : ∀ (ds : List D) (vs : List V), Rs K I ds vs → Rs K J ds vs
  | [], _, h => by unfold Rs at h ⊢; exact h
  | x :: xs, vs, h => by
    unfold Rs at h ⊢
    obtain ⟨v, r, e, h1, h2⟩ := h
    exact ⟨v, r, e, R.mono l x v h1, Rs.mono l xs r h2⟩
end
theorem R_int {K : PySem.W.Frag} {I : Hp} {i : Int} {v : V} : R K I (.int i) v ↔ v = .int i := by unfold R; exact Iff.rfl
theorem R_bl {K : PySem.W.Frag} {I : Hp} {i : Bool} {v : V} : R K I (.bl i) v ↔ v = .bl i := by unfold R; exact Iff.rfl
theorem R_str {K : PySem.W.Frag} {I : Hp} {i : Str} {v : V} : R K I (.str i) v ↔ v = .str i := by unfold R; exact Iff.rfl
theorem R_non {K : PySem.W.Frag} {I : Hp} {v : V} : R K I .non v ↔ v = .non := by unfold R; exact Iff.rfl
theorem R_ty {K : PySem.W.Frag} {I : Hp} {n : String} {v : V} : R K I (.ty n) v ↔ v = .ty n := by unfold R; exact Iff.rfl
theorem R_cls {K : PySem.W.Frag} {I : Hp} {C : String} {v : V} : R K I (.cls C) v ↔ v = .ref (cad K C) := by unfold R; exact Iff.rfl
theorem R_tup {K : PySem.W.Frag} {I : Hp} {xs : List D} {v : V} : R K I (.tup xs) v ↔ ∃ a vs, v = .ref a ∧ SqT K I a vs ∧ Rs K I xs vs := by unfold R; exact Iff.rfl
theorem R_lst {K : PySem.W.Frag} {I : Hp} {xs : List D} {v : V} : R K I (.lst xs) v ↔ ∃ a vs, v = .ref a ∧ SqL K I a vs ∧ Rs K I xs vs := by unfold R; exact Iff.rfl
theorem R_ins {K : PySem.W.Frag} {I : Hp} {C : String} {ks : List String} {fs : List D} {v : V} : R K I (.ins C ks fs) v ↔ ∃ a dx vs, v = .ref a ∧ I a = some (.ins (cad K C) dx ((nms ks).zip vs)) ∧ ks.length = vs.length ∧ Rs K I fs vs := by unfold R; exact Iff.rfl
theorem Rs_nil {K : PySem.W.Frag} {I : Hp} {vs : List V} : Rs K I [] vs ↔ vs = [] := by unfold Rs; exact Iff.rfl
theorem Rs_cons {K : PySem.W.Frag} {I : Hp} {x : D} {xs : List D} {vs : List V} : Rs K I (x :: xs) vs ↔ ∃ v r, vs = v :: r ∧ R K I x v ∧ Rs K I xs r := by rw [Rs]
theorem Rs.length {K : PySem.W.Frag} {I : Hp} : ∀ {ds : List D} {vs : List V}, Rs K I ds vs → ds.length = vs.length
  | [], _, h => by rw [Rs_nil.mp h]; rfl
  | x :: xs, vs, h => by
    obtain ⟨v, r, rfl, _, h2⟩ := Rs_cons.mp h
    simp [Rs.length h2]
theorem Rs.get {K : PySem.W.Frag} {I : Hp} : ∀ {ds : List D} {vs : List V} {i : Nat} {d : D}, Rs K I ds vs → ds[i]? = some d → ∃ v, vs[i]? = some v ∧ R K I d v
  | [], _, i, d, h, e => by simp at e
  | x :: xs, vs, i, d, h, e => by
    obtain ⟨v, r, rfl, h1, h2⟩ := Rs_cons.mp h
    cases i with
    | zero =>
      have : x = d := by simpa using e
      subst this
      exact ⟨v, rfl, h1⟩
    | succ i =>
      have := Rs.get (i := i) (d := d) h2 (by simpa using e)
      simpa using this
theorem Rs.get' {K : PySem.W.Frag} {I : Hp} {ds : List D} {vs : List V} {i : Nat} {v : V} (h : Rs K I ds vs) (e : vs[i]? = some v) : ∃ d, ds[i]? = some d ∧ R K I d v := by
  have hl := h.length
  have hi : i < vs.length := (List.getElem?_eq_some_iff.mp e).1
  have hd : ds[i]? = some (ds[i]'(by omega)) := List.getElem?_eq_getElem _
  obtain ⟨w, e1, r⟩ := h.get hd
  rw [e] at e1
  cases e1
  exact ⟨_, hd, r⟩
theorem Rs.append {K : PySem.W.Frag} {I : Hp} : ∀ {ds es : List D} {vs ws : List V}, Rs K I ds vs → Rs K I es ws → Rs K I (ds ++ es) (vs ++ ws)
  | [], _, _, _, h, g => by rw [Rs_nil.mp h]; exact g
  | x :: xs, _, vs, _, h, g => by
    obtain ⟨v, r, rfl, h1, h2⟩ := Rs_cons.mp h
    exact Rs_cons.mpr ⟨v, _, rfl, h1, Rs.append h2 g⟩
theorem Rs.set {K : PySem.W.Frag} {I : Hp} {d : D} {v : V} (r : R K I d v) : ∀ {ds : List D} {vs : List V} (i : Nat), Rs K I ds vs → Rs K I (ds.set i d) (vs.set i v)
  | [], _, i, h => by rw [Rs_nil.mp h]; exact Rs_nil.mpr rfl
  | x :: xs, vs, i, h => by
    obtain ⟨w, l, rfl, h1, h2⟩ := Rs_cons.mp h
    cases i with
    | zero => exact Rs_cons.mpr ⟨_, _, rfl, r, h2⟩
    | succ i => exact Rs_cons.mpr ⟨_, _, rfl, h1, Rs.set r i h2⟩
theorem Rs.ints {K : PySem.W.Frag} {I : Hp} : ∀ (ns : List Int), Rs K I (ns.map D.int) (ns.map V.int)
  | [] => Rs_nil.mpr rfl
  | n :: ns => Rs_cons.mpr ⟨_, _, rfl, R_int.mpr rfl, Rs.ints ns⟩
theorem ofString_inj {a b : String} : Str.ofString a = Str.ofString b ↔ a = b := by
  constructor
  · intro h
    rw [Str.ofString_eq_toList, Str.ofString_eq_toList] at h
    have h2 : a.toList.map Char.toNat = b.toList.map Char.toNat := by
      have := congrArg (fun s : Str => s.cps.toList) h
      simpa using this
    have h3 : a.toList = b.toList := (List.map_inj_right (fun x y e => Char.ext (UInt32.toNat_inj.mp e))).mp h2
    exact String.ext h3
  · rintro rfl
    rfl
/-- what a mutable thing holds -/
inductive Cell where
  | lst (xs : List D)
  | ins (C : String) (ks : List String) (fs : List D)
/-- a slot's content: data; a mutable thing of the frame's own; one that the caller lends -/
inductive SV where
  | d (d : D)
  | own (c : Cell)
  | bor (c : Cell)
abbrev Ev := List (Option SV)
def SV.isCell : SV → Bool
  | .d _ => false
  | _ => true
def SV.isOwn : SV → Bool
  | .own _ => true
  | _ => false
def CellAt (K : PySem.W.Frag) (I H : Hp) (p : Addr) : Cell → Prop
  | .lst xs => ∃ vs, H p = some (.lst vs) ∧ Rs K I xs vs
  | .ins C ks fs => ∃ dx vs, H p = some (.ins (cad K C) dx ((nms ks).zip vs)) ∧ ks.length = vs.length ∧ Rs K I fs vs
def RS (K : PySem.W.Frag) (I H : Hp) : SV → V → Prop
  | .d d, v => R K I d v
  | .own c, v => ∃ p, v = .ref p ∧ I p = none ∧ CellAt K I H p c
  | .bor c, v => ∃ p, v = .ref p ∧ I p = none ∧ CellAt K I H p c
theorem CellAt.there {K : PySem.W.Frag} {I H : Hp} {p : Addr} {c : Cell} (h : CellAt K I H p c) : H p ≠ none := by
  cases c with
  | lst xs => obtain ⟨vs, e, _⟩ := h; rw [e]; exact fun z => nomatch z
  | ins C ks fs => obtain ⟨dx, vs, e, _⟩ := h; rw [e]; exact fun z => nomatch z
/-- the slot holds a mutable thing at a -/
def Own (σ : St) (ev : Ev) (a : Addr) : Prop := ∃ (i : Nat) (s : SV), ev[i]? = some (some s) ∧ s.isCell = true ∧ σ[i]? = some (some (.ref a))
def LOwn (σ : St) (ev : Ev) (a : Addr) : Prop := ∃ (i : Nat) (s : SV), ev[i]? = some (some s) ∧ s.isOwn = true ∧ σ[i]? = some (some (.ref a))
structure Rel (K : PySem.W.Frag) (σ : St) (ev : Ev) (I H : Hp) : Prop where
  len : ev.length = σ.length
  sub : Le I H
  slot : ∀ (i : Nat) (s : SV), ev[i]? = some (some s) → ∃ v, σ[i]? = some (some v) ∧ RS K I H s v
  sep : ∀ (i j : Nat) (s t : SV) (a : Addr), ev[i]? = some (some s) → ev[j]? = some (some t) → s.isCell = true → t.isCell = true → σ[i]? = some (some (.ref a)) → σ[j]? = some (some (.ref a)) → i = j
structure Step (σ : St) (ev : Ev) (I H : Hp) (σ' : St) (ev' : Ev) (I' H' : Hp) : Prop where
  keep : ∀ a o, H a = some o → ¬ Own σ ev a → H' a = some o
  there : ∀ a, H a ≠ none → H' a ≠ none
  le : Le I I'
  new : ∀ a, H a ≠ none → I a = none → ¬ LOwn σ ev a → I' a = none
  own : ∀ a, Own σ' ev' a → Own σ ev a ∨ H a = none
  lown : ∀ a, LOwn σ' ev' a → LOwn σ ev a ∨ H a = none
  bor : ∀ (i : Nat) (c : Cell), ev[i]? = some (some (.bor c)) → (∃ c', ev'[i]? = some (some (.bor c'))) ∧ σ'[i]? = σ[i]?
theorem LOwn.toOwn {σ : St} {ev : Ev} {a : Addr} (h : LOwn σ ev a) : Own σ ev a := by
  obtain ⟨i, s, e, h1, h2⟩ := h
  exact ⟨i, s, e, by cases s <;> first | rfl | (cases h1), h2⟩
theorem Step.refl (σ : St) (ev : Ev) (I H : Hp) : Step σ ev I H σ ev I H :=
  ⟨fun _ _ h _ => h, fun _ h => h, Le.refl _, fun _ _ h _ => h, fun _ h => .inl h, fun _ h => .inl h, fun i c h => ⟨⟨c, h⟩, rfl⟩⟩
theorem Step.trans {σ σ1 σ2 : St} {ev ev1 ev2 : Ev} {I H I1 H1 I2 H2 : Hp} (a : Step σ ev I H σ1 ev1 I1 H1) (b : Step σ1 ev1 I1 H1 σ2 ev2 I2 H2) : Step σ ev I H σ2 ev2 I2 H2 where
  keep := fun x o h n => b.keep x o (a.keep x o h n) fun w => (a.own x w).elim n fun z => by rw [h] at z; cases z
  there := fun x h => b.there x (a.there x h)
  le := a.le.trans b.le
  new := fun x h i n => b.new x (a.there x h) (a.new x h i n) fun w => (a.lown x w).elim n h
  own := fun x w => (b.own x w).elim (a.own x) fun z => .inr (Classical.byContradiction fun q => a.there x q z)
  lown := fun x w => (b.lown x w).elim (a.lown x) fun z => .inr (Classical.byContradiction fun q => a.there x q z)
  bor := fun i c h => by
    obtain ⟨⟨c1, h1⟩, e1⟩ := a.bor i c h
    obtain ⟨h2, e2⟩ := b.bor i c1 h1
    exact ⟨h2, e2.trans e1⟩
/-- the heap grows; the data grows -/
structure Ex (I H I' H' : Hp) : Prop where
  same : Le H H'
  le : Le I I'
  sub : Le I' H'
  new : ∀ a, H a ≠ none → I a = none → I' a = none
theorem Ex.refl {I H : Hp} (s : Le I H) : Ex I H I H := ⟨Le.refl _, Le.refl _, s, fun _ _ h => h⟩
theorem Ex.trans {I H I1 H1 I2 H2 : Hp} (a : Ex I H I1 H1) (b : Ex I1 H1 I2 H2) : Ex I H I2 H2 :=
  ⟨a.same.trans b.same, a.le.trans b.le, b.sub, fun x h i => b.new x (fun z => by
    cases e : H x with
    | none => exact h e
    | some o => rw [a.same x o e] at z; cases z) (a.new x h i)⟩
/-- a new object that is data from now on -/
theorem Ex.alloc {I H : Hp} (s : Le I H) {p : Addr} {o : HO} (h : H p = none) : Ex I H (upd I p o) (upd H p o) where
  same := fun a u e => by rw [upd_ne (ne_of_none e h)]; exact e
  le := fun a u e => by rw [upd_ne (ne_of_none (s a u e) h)]; exact e
  sub := fun a u e => by
    by_cases q : a = p
    · subst q; rw [upd_same] at e ⊢; exact e
    · rw [upd_ne q] at e ⊢; exact s a u e
  new := fun a h1 h2 => by
    by_cases q : a = p
    · subst q; exact absurd h h1
    · rw [upd_ne q]; exact h2
/-- a new object that is not data (yet) -/
theorem Ex.laid {I H : Hp} (s : Le I H) {p : Addr} {o : HO} (h : H p = none) : Ex I H I (upd H p o) where
  same := fun a u e => by rw [upd_ne (ne_of_none e h)]; exact e
  le := Le.refl _
  sub := fun a u e => by rw [upd_ne (ne_of_none (s a u e) h)]; exact s a u e
  new := fun _ _ h2 => h2
theorem CellAt.mono {K : PySem.W.Frag} {I H I' H' : Hp} {p : Addr} {c : Cell} (l : Le I I') (k : ∀ o, H p = some o → H' p = some o) (h : CellAt K I H p c) : CellAt K I' H' p c := by
  cases c with
  | lst xs => obtain ⟨vs, e, r⟩ := h; exact ⟨vs, k _ e, Rs.mono l _ _ r⟩
  | ins C ks fs => obtain ⟨dx, vs, e, n, r⟩ := h; exact ⟨dx, vs, k _ e, n, Rs.mono l _ _ r⟩
theorem Rel.cell {K : PySem.W.Frag} {σ : St} {ev : Ev} {I H : Hp} (r : Rel K σ ev I H) {i : Nat} {s : SV} (e : ev[i]? = some (some s)) (hc : s.isCell = true) :
    ∃ p c, σ[i]? = some (some (.ref p)) ∧ I p = none ∧ CellAt K I H p c ∧ (s = .own c ∨ s = .bor c) := by
  obtain ⟨v, h1, h2⟩ := r.slot i s e
  cases s with
  | d d => cases hc
  | own c => obtain ⟨p, rfl, h3, h4⟩ := h2; exact ⟨p, c, h1, h3, h4, .inl rfl⟩
  | bor c => obtain ⟨p, rfl, h3, h4⟩ := h2; exact ⟨p, c, h1, h3, h4, .inr rfl⟩
theorem Rel.ex {K : PySem.W.Frag} {σ : St} {ev : Ev} {I H I' H' : Hp} (r : Rel K σ ev I H) (x : Ex I H I' H') : Rel K σ ev I' H' where
  len := r.len
  sub := x.sub
  slot := fun i s e => by
    obtain ⟨v, h1, h2⟩ := r.slot i s e
    refine ⟨v, h1, ?_⟩
    have cell : ∀ c p, I p = none → CellAt K I H p c → I' p = none ∧ CellAt K I' H' p c := fun c p h3 h4 => ⟨x.new p h4.there h3, h4.mono x.le fun o => x.same p o⟩
    cases s with
    | d d => exact R.mono x.le _ _ h2
    | own c => obtain ⟨p, e, h3, h4⟩ := h2; exact ⟨p, e, cell c p h3 h4⟩
    | bor c => obtain ⟨p, e, h3, h4⟩ := h2; exact ⟨p, e, cell c p h3 h4⟩
  sep := r.sep
theorem Ex.step {σ : St} {ev : Ev} {I H I' H' : Hp} (x : Ex I H I' H') : Step σ ev I H σ ev I' H' where
  keep := fun a o h _ => x.same a o h
  there := fun a h z => by
    cases e : H a with
    | none => exact h e
    | some o => rw [x.same a o e] at z; cases z
  le := x.le
  new := fun a h i _ => x.new a h i
  own := fun _ h => .inl h
  lown := fun _ h => .inl h
  bor := fun i c h => ⟨⟨c, h⟩, rfl⟩
/-- an exception: its class's name, its fields -/
structure Err where
  x : String
  ks : List String
  fs : List D
inductive Out (α : Type) where
  | ok (a : α) (ev : Ev)
  | er (e : Err) (ev : Ev)
abbrev M (α : Type) := Ev → Option (Out α)
def M.bind {α β : Type} (c : M α) (f : α → M β) : M β := fun ev => match c ev with
  | none => none
  | some (.ok a ev') => f a ev'
  | some (.er e ev') => some (.er e ev')
def M.ret {α : Type} (a : α) : M α := fun ev => some (.ok a ev)
def M.opt {α : Type} (o : Option α) : M α := fun ev => o.map fun a => .ok a ev
def XD (K : PySem.W.Frag) (I H : Hp) (dd : Addr) (e : Err) : Prop := ∃ vs, H dd = some (.xd ((nms e.ks).zip vs)) ∧ e.ks.length = vs.length ∧ Rs K I e.fs vs
def Post {α : Type} (K : PySem.W.Frag) (W : WX) (c : M α) (σ : St) (ev : Ev) (I H : Hp) (G : α → Ev → Hp → Hp → Prop) : Prop :=
  match c ev with
  | none => False
  | some (.ok a ev') => ∀ I' H', Step σ ev I H σ ev' I' H' → Rel K σ ev' I' H' → G a ev' I' H'
  | some (.er e ev') => ∀ I' H' dd, Step σ ev I H σ ev' I' H' → Rel K σ ev' I' H' → XD K I' H' dd e → W (.ref (cad K e.x)) (some dd) σ H'
theorem Post.bind {α β : Type} {K : PySem.W.Frag} {W : WX} {c : M α} {f : α → M β} {σ : St} {ev : Ev} {I H : Hp} {G : β → Ev → Hp → Hp → Prop} (h : Post K W (c.bind f) σ ev I H G) :
    Post K W c σ ev I H fun a ev1 I1 H1 => Post K W (f a) σ ev1 I1 H1 G := by
  unfold Post M.bind at h
  unfold Post
  cases e : c ev with
  | none => rw [e] at h; exact h
  | some o =>
    rw [e] at h
    cases o with
    | er x ev' => exact h
    | ok a ev1 =>
      intro I1 H1 s1 r1
      simp only at h ⊢
      cases e2 : f a ev1 with
      | none => rw [e2] at h; exact h
      | some o2 =>
        rw [e2] at h
        cases o2 with
        | ok b ev2 => intro I2 H2 s2 r2; exact h I2 H2 (s1.trans s2) r2
        | er x ev2 => intro I2 H2 dd s2 r2 xd; exact h I2 H2 dd (s1.trans s2) r2 xd
theorem Post.imp {α : Type} {K : PySem.W.Frag} {W : WX} {c : M α} {σ : St} {ev : Ev} {I H : Hp} {G G' : α → Ev → Hp → Hp → Prop} (h : Post K W c σ ev I H G) (g : ∀ a ev' I' H', Step σ ev I H σ ev' I' H' → Rel K σ ev' I' H' → G a ev' I' H' → G' a ev' I' H') : Post K W c σ ev I H G' := by
  unfold Post at h ⊢
  cases e : c ev with
  | none => rw [e] at h; exact h
  | some o =>
    rw [e] at h
    cases o with
    | ok a ev' => intro I' H' s r; exact g a ev' I' H' s r (h I' H' s r)
    | er x ev' => exact h
theorem Post.ret {α : Type} {K : PySem.W.Frag} {W : WX} {a : α} {σ : St} {ev : Ev} {I H : Hp} {G : α → Ev → Hp → Hp → Prop} (r : Rel K σ ev I H) (h : Post K W (M.ret a) σ ev I H G) : G a ev I H := h I H (Step.refl ..) r
theorem Post.opt {α : Type} {K : PySem.W.Frag} {W : WX} {o : Option α} {σ : St} {ev : Ev} {I H : Hp} {G : α → Ev → Hp → Hp → Prop} (h : Post K W (M.opt o) σ ev I H G) : ∃ a, o = some a ∧ ∀ I' H', Step σ ev I H σ ev I' H' → Rel K σ ev I' H' → G a ev I' H' := by
  unfold Post M.opt at h
  cases o with
  | none => exact h.elim
  | some a => exact ⟨a, rfl, h⟩
def RG (K : PySem.W.Frag) (Q : VK) : D → Ev → Hp → Hp → Prop := fun d _ I' H' => ∀ v, R K I' d v → Q v H'
def SimE (K : PySem.W.Frag) (W : WX) (t : TE) (c : M D) : Prop := ∀ (σ : St) (ev : Ev) (I H : Hp) (Q : VK), Rel K σ ev I H → Post K W c σ ev I H (RG K Q) → t σ H Q
def SE (X : Cx) (W : WX) (e : Expr) (c : M D) : Prop := ∃ t, PE X e t ∧ SimE X.K W t c
def SimT (K : PySem.W.Frag) (W : WX) (t : TT) (c : M Bool) : Prop := ∀ (σ : St) (ev : Ev) (I H : Hp) (Q : Bool → Hp → Prop), Rel K σ ev I H → Post K W c σ ev I H (fun b _ _ H' => Q b H') → t σ H Q
def STt (X : Cx) (W : WX) (e : Expr) (c : M Bool) : Prop := ∃ t, PT X e t ∧ SimT X.K W t c
def SimA (K : PySem.W.Frag) (W : WX) (t : TA) (c : M (List D)) : Prop := ∀ (σ : St) (ev : Ev) (I H : Hp) (Q : List V → Hp → Prop), Rel K σ ev I H → Post K W c σ ev I H (fun ds _ I' H' => ∀ vs, Rs K I' ds vs → Q vs H') → t σ H Q
def SA (X : Cx) (W : WX) (es : List Expr) (c : M (List D)) : Prop := ∃ t, PA X es t ∧ SimA X.K W t c
end FL
set_option Elab.async false
set_option linter.all false
set_option maxRecDepth 100000
namespace FL
open PySem
open PySem.Spec
open L2
def mVar (i : Nat) : M D := fun ev => match ev[i]? with
  | some (some (.d d)) => some (.ok d ev)
  | _ => none
def M.fail {α : Type} : M α := fun _ => none
section
variable {X : Cx} {W : WX} {a b c e : Expr} {pos : Pos}
theorem simE_var {K : PySem.W.Frag} (i : Nat) : SimE K W (tVar i) (mVar i) := fun σ ev I H Q rel h => by
  unfold Post mVar at h
  split at h
  · exact h.elim
  · rename_i d ev' q
    split at q
    · rename_i d0 e0
      cases q
      obtain ⟨v, h1, h2⟩ := rel.slot i _ e0
      exact ⟨v, h1, h I H (Step.refl ..) rel v h2⟩
    · cases q
  · rename_i x ev' q
    split at q <;> cases q
theorem se_var (i : Nat) {x : Str} (hN : X.N[i]? = some x) (hv : Vis X.env.scope x) (hd : (x == ("__debug__" : Str)) = false := by decide +kernel) (hcd : (x == ("__classdict__" : Str)) = false := by decide +kernel) : SE X W (.Name x pos) (mVar i) :=
  ⟨_, pe_var hN hv hd hcd, simE_var i⟩
theorem simE_C {K : PySem.W.Frag} {v : V} {d : D} (r : ∀ I, R K I d v) : SimE K W (tC v) (M.ret d) := fun σ ev I H Q rel h => Post.ret rel h v (r I)
theorem se_int {i j} : SE X W (.Constant (.int i) j pos) (M.ret (.int i)) := ⟨_, pe_int, simE_C fun _ => R_int.mpr rfl⟩
theorem se_bl {i j} : SE X W (.Constant (.bool i) j pos) (M.ret (.bl i)) := ⟨_, pe_bl, simE_C fun _ => R_bl.mpr rfl⟩
theorem se_str {i j} : SE X W (.Constant (.str i) j pos) (M.ret (.str i)) := ⟨_, pe_str, simE_C fun _ => R_str.mpr rfl⟩
theorem se_non {j} : SE X W (.Constant .none j pos) (M.ret .non) := ⟨_, pe_non, simE_C fun _ => R_non.mpr rfl⟩
/-- a constant of the module's own -/
def Glb (K : PySem.W.Frag) (mg : Str → Option Value) (x : Str) (d : D) : Prop := ∃ u v, mg x = some u ∧ RelV v u ∧ R K (fun _ => none) d v
theorem se_glob {x : Str} {d : D} (h : Glb X.K X.mg x d) (hg : Gl X x) (hd : (x == ("__debug__" : Str)) = false := by decide +kernel) : SE X W (.Name x pos) (M.ret d) := by
  obtain ⟨u, v, h1, h2, h3⟩ := h
  exact ⟨_, pe_glob hg h1 h2 hd, simE_C fun I => R.mono (fun _ _ z => by cases z) _ _ h3⟩
theorem se_ty {x : Str} {n : String} (hm : X.mg x = none) (hg : Gl X x) (hv : bootBuiltins x = some (.type n)) (hn : x ≠ "__name__" := by decide +kernel) (hd : (x == ("__debug__" : Str)) = false := by decide +kernel) : SE X W (.Name x pos) (M.ret (.ty n)) :=
  ⟨_, pe_bltn hg hm hv (show RelV (.ty n) (.type n) from rfl) hn hd, simE_C fun _ => R_ty.mpr rfl⟩
def OpS (X : Cx) (f : Value → Value → Sem Value) (g : D → D → Option D) : Prop := ∃ r, OpR X f r ∧
  ∀ (I H : Hp) (a b : D) (x y : V) (d : D) (Q : VK), Le I H → g a b = some d → R X.K I a x → R X.K I b y → (∀ I' H' v, Ex I H I' H' → R X.K I' d v → Q v H') → r x y H Q
def dOr (g g' : D → D → Option D) : D → D → Option D := fun a b => match g a b with
  | some d => some d
  | none => g' a b
def m2 (g : D → D → Option D) (ca cb : M D) : M D := ca.bind fun x => cb.bind fun y => M.opt (g x y)
theorem sim2 {g : D → D → Option D} {r : R2} {ta tb : TE} {ca cb : M D} (hg : ∀ (I H : Hp) (a b : D) (x y : V) (d : D) (Q : VK), Le I H → g a b = some d → R X.K I a x → R X.K I b y → (∀ I' H' v, Ex I H I' H' → R X.K I' d v → Q v H') → r x y H Q)
    (sa : SimE X.K W ta ca) (sb : SimE X.K W tb cb) : SimE X.K W (tOp r ta tb) (m2 g ca cb) := fun σ ev I H Q rel h =>
  sa σ ev I H _ rel ((Post.bind h).imp fun x ev1 I1 H1 s1 r1 h1 vx rx =>
    sb σ ev1 I1 H1 _ r1 ((Post.bind h1).imp fun y ev2 I2 H2 s2 r2 h2 vy ry => by
      obtain ⟨d, e, k⟩ := Post.opt h2
      exact hg I2 H2 x y vx vy d Q r2.sub e (R.mono s2.le _ _ rx) ry fun I' H' v ex rv => k I' H' ex.step (r2.ex ex) v rv))
theorem se_op {op : Operator} {g : D → D → Option D} {ca cb : M D} (ho : OpS X (binaryOp op) g) (ha : SE X W a ca) (hb : SE X W b cb) : SE X W (.BinOp a op b pos) (m2 g ca cb) := by
  obtain ⟨r, ho, hg⟩ := ho
  obtain ⟨ta, pa, sa⟩ := ha
  obtain ⟨tb, pb, sb⟩ := hb
  exact ⟨_, pe_op ho pa pb, sim2 hg sa sb⟩
theorem se_cmp {op : CmpOp} {g : D → D → Option D} {ca cb : M D} (ho : OpS X (compareOp op) g) (ha : SE X W a ca) (hb : SE X W b cb) (hm : behindInMarks op b = false) : SE X W (.Compare a [op] [b] pos) (m2 g ca cb) := by
  obtain ⟨r, ho, hg⟩ := ho
  obtain ⟨ta, pa, sa⟩ := ha
  obtain ⟨tb, pb, sb⟩ := hb
  exact ⟨_, pe_cmpR ho pa pb hm, sim2 hg sa sb⟩
theorem OpS.or {f : Value → Value → Sem Value} {g g' : D → D → Option D} (h : OpS X f g) (h' : OpS X f g') : OpS X f (dOr g g') := by
  obtain ⟨r, ho, hg⟩ := h
  obtain ⟨r', ho', hg'⟩ := h'
  refine ⟨_, ho.or ho', fun I H a b x y d Q l e rx ry k => ?_⟩
  unfold dOr at e
  cases q : g a b with
  | some d' =>
    rw [q] at e
    cases e
    exact .inl (hg I H a b x y _ Q l q rx ry k)
  | none =>
    rw [q] at e
    exact .inr (hg' I H a b x y d Q l e rx ry k)
def dI (C : Int → Int → Prop) [∀ i j, Decidable (C i j)] (gd : Int → Int → D) : D → D → Option D := fun a b => match a, b with
  | .int i, .int j => if C i j then some (gd i j) else none
  | _, _ => none
def dI0 (gd : Int → Int → D) : D → D → Option D := fun a b => match a, b with
  | .int i, .int j => some (gd i j)
  | _, _ => none
/-- ints in, a scalar out -/
theorem OpS.ints {f : Value → Value → Sem Value} {C : Int → Int → Prop} [∀ i j, Decidable (C i j)] {g : Int → Int → V} {gd : Int → Int → D} (ho : OpR X f (rI C g)) (hd : ∀ i j I, R X.K I (gd i j) (g i j)) :
    OpS X f (dI C gd) := by
  refine ⟨_, ho, fun I H a b x y d Q l e rx ry k => ?_⟩
  unfold dI at e
  split at e
  · rename_i i j
    split at e
    · rename_i hc
      cases e
      rw [R_int] at rx ry
      exact ⟨i, j, rx, ry, hc, k I H _ (Ex.refl l) (hd i j I)⟩
    · cases e
  · cases e
theorem OpS.ints0 {f : Value → Value → Sem Value} {g : Int → Int → V} {gd : Int → Int → D} (ho : OpR X f (rI0 g)) (hd : ∀ i j I, R X.K I (gd i j) (g i j)) :
    OpS X f (dI0 gd) := by
  refine ⟨_, ho, fun I H a b x y d Q l e rx ry k => ?_⟩
  unfold dI0 at e
  split at e
  · rename_i i j
    cases e
    rw [R_int] at rx ry
    exact ⟨i, j, rx, ry, k I H _ (Ex.refl l) (hd i j I)⟩
  · cases e
theorem OpS.eq {f : Value → Value → Sem Value} {g g' : D → D → Option D} (h : OpS X f g) (e : ∀ a b, g' a b = g a b) : OpS X f g' := by
  have : g' = g := funext fun a => funext fun b => e a b
  rw [this]
  exact h
def dSub : D → D → Option D
  | .int i, .int j => some (.int (i - j))
  | _, _ => none
theorem os_sub : OpS X (binaryOp .Sub) dSub := (OpS.ints0 op_sub fun _ _ _ => R_int.mpr rfl).eq fun a b => by cases a <;> cases b <;> rfl
/-- the limit of products: both sides together -/
def mulOk (i j : Int) : Prop := i.natAbs.log2 + j.natAbs.log2 < 1000000
instance (i j : Int) : Decidable (mulOk i j) := inferInstanceAs (Decidable (_ < _))
def dMulI : D → D → Option D
  | .int i, .int j => if mulOk i j then some (.int (i * j)) else none
  | _, _ => none
theorem os_mulI : OpS X (binaryOp .Mult) dMulI := (OpS.ints (C := mulOk) op_mulW fun _ _ _ => R_int.mpr rfl).eq fun a b => by cases a <;> cases b <;> rfl
def fdivOk (_ j : Int) : Prop := 0 < j ∧ j.natAbs.log2 < 9000
instance (i j : Int) : Decidable (fdivOk i j) := inferInstanceAs (Decidable (_ ∧ _))
def dFdiv : D → D → Option D
  | .int i, .int j => if fdivOk i j then some (.int (i / j)) else none
  | _, _ => none
theorem os_fdiv : OpS X (binaryOp .FloorDiv) dFdiv := (OpS.ints (C := fdivOk) op_fdivW fun _ _ _ => R_int.mpr rfl).eq fun a b => by cases a <;> cases b <;> rfl
def dMod : D → D → Option D
  | .int i, .int j => if 0 < j then some (.int (i % j)) else none
  | _, _ => none
theorem os_mod : OpS X (binaryOp .Mod) dMod := (OpS.ints (C := fun _ j => 0 < j) op_mod fun _ _ _ => R_int.mpr rfl).eq fun a b => by cases a <;> cases b <;> rfl
def powOk (i j : Int) : Prop := 0 ≤ j ∧ j ≤ 1000000 ∧ i.natAbs < 2 ^ 64
instance (i j : Int) : Decidable (powOk i j) := inferInstanceAs (Decidable (_ ∧ _))
def dPow : D → D → Option D
  | .int i, .int j => if powOk i j then some (.int (i ^ j.toNat)) else none
  | _, _ => none
theorem os_pow : OpS X (binaryOp .Pow) dPow := (OpS.ints (C := powOk) op_pow fun _ _ _ => R_int.mpr rfl).eq fun a b => by cases a <;> cases b <;> rfl
def dLt : D → D → Option D
  | .int i, .int j => some (.bl (decide (i < j)))
  | _, _ => none
def dLe : D → D → Option D
  | .int i, .int j => some (.bl (decide (i ≤ j)))
  | _, _ => none
def dGt : D → D → Option D
  | .int i, .int j => some (.bl (decide (j < i)))
  | _, _ => none
def dGe : D → D → Option D
  | .int i, .int j => some (.bl (decide (j ≤ i)))
  | _, _ => none
theorem os_lt : OpS X (compareOp .Lt) dLt := (OpS.ints0 op_lt fun _ _ _ => R_bl.mpr rfl).eq fun a b => by cases a <;> cases b <;> rfl
theorem os_le : OpS X (compareOp .LtE) dLe := (OpS.ints0 op_le fun _ _ _ => R_bl.mpr rfl).eq fun a b => by cases a <;> cases b <;> rfl
theorem os_gt : OpS X (compareOp .Gt) dGt := (OpS.ints0 op_gt fun _ _ _ => R_bl.mpr rfl).eq fun a b => by cases a <;> cases b <;> rfl
theorem os_ge : OpS X (compareOp .GtE) dGe := (OpS.ints0 op_ge fun _ _ _ => R_bl.mpr rfl).eq fun a b => by cases a <;> cases b <;> rfl
def dAddI : D → D → Option D
  | .int i, .int j => some (.int (i + j))
  | _, _ => none
theorem os_addI : OpS X (binaryOp .Add) dAddI := (OpS.ints0 op_add fun _ _ _ => R_int.mpr rfl).eq fun a b => by cases a <;> cases b <;> rfl
def dAddS : D → D → Option D
  | .str i, .str j => if i.length + j.length ≤ sizeLine then some (.str (i ++ j)) else none
  | _, _ => none
theorem os_addS : OpS X (binaryOp .Add) dAddS := by
  refine ⟨_, op_add_str, fun I H a b x y d Q l e rx ry k => ?_⟩
  unfold dAddS at e
  split at e
  · split at e
    · rename_i hc
      cases e
      rw [R_str] at rx ry
      exact ⟨_, _, rx, ry, hc, k I H _ (Ex.refl l) (R_str.mpr rfl)⟩
    · cases e
  · cases e
def dAddT : D → D → Option D
  | .tup xs, .tup ys => if xs.length + ys.length ≤ sizeLine ∧ xs ≠ [] ∧ ys ≠ [] then some (.tup (xs ++ ys)) else none
  | _, _ => none
theorem Rs.ne {K : PySem.W.Frag} {I : Hp} {ds : List D} {vs : List V} (h : Rs K I ds vs) (n : ds ≠ []) : vs ≠ [] := by
  intro z
  subst z
  have := h.length
  cases ds with
  | nil => exact n rfl
  | cons => simp at this
theorem os_addT : OpS X (binaryOp .Add) dAddT := by
  refine ⟨_, op_catT, fun I H a b x y d Q l e rx ry k => ?_⟩
  unfold dAddT at e
  split at e
  · split at e
    · rename_i xs ys hc
      cases e
      obtain ⟨p, vs, rfl, h1, h2⟩ := R_tup.mp rx
      obtain ⟨q, ws, rfl, h3, h4⟩ := R_tup.mp ry
      refine ⟨p, q, vs, ws, rfl, rfl, l.sqT h1, l.sqT h3, h2.ne hc.2.1, by rw [← h2.length, ← h4.length]; exact hc.1, fun z => absurd z (h4.ne hc.2.2), fun _ t ht => ?_⟩
      have ex := Ex.alloc (o := HO.tup (vs ++ ws)) l ht
      exact k _ _ _ ex (R_tup.mpr ⟨t, _, rfl, SqT.of upd_same, Rs.mono ex.le _ _ (h2.append h4)⟩)
    · cases e
  · cases e
end
end FL
set_option Elab.async false
set_option linter.all false
set_option maxRecDepth 100000
namespace FL
open PySem
open PySem.Spec
open L2
section
variable {X : Cx} {W : WX} {a b c e : Expr} {pos : Pos}
def rCatL (K : PySem.W.Frag) : R2 := fun x y H Q => ∃ l b xs zs, x = .ref l ∧ y = .ref b ∧ SqL K H l xs ∧ SqL K H b zs ∧ xs.length + zs.length ≤ sizeLine ∧ ∀ p, H p = none → Q (.ref p) (upd H p (.lst (xs ++ zs)))
theorem op_catL : OpR X (binaryOp .Add) (rCatL X.K) := by
  intro pins s σ H x y v u Q I rx ry hcat
  obtain ⟨l, b, xs, zs, rfl, rfl, hl, hb, hz, q⟩ := hcat
  cases rx
  cases ry
  obtain ⟨its, r, p1, _⟩ := I.list hl
  obtain ⟨its2, r2, p2, _⟩ := I.list hb
  obtain ⟨⟨oc, od, odt, osl⟩, n, ho, hc, _, hd⟩ := id p1
  obtain ⟨⟨oc2, od2, odt2, osl2⟩, n2, ho2, hc2, _, hd2⟩ := id p2
  simp only at hc hd hc2 hd2
  subst hc hd hc2 hd2
  have both : its.toArray ++ its2.toArray = (its ++ its2).toArray := by simp
  refine concat_meets ⟨_, ho, rfl⟩ ⟨_, ho2, rfl⟩ noFill_list_add seq_list_add F.slot_list_add F.entry_list_add (F.args_list_add_2 _ _)
    (PyProof.Rows.list_addW l b its.toArray its2.toArray n n2 od od2 osl osl2 (by rw [List.size_toArray, List.size_toArray, ← r.length, ← r2.length]; exact hz)) ⟨ho, ho2, ?_⟩
  rw [both]
  have short : (xs ++ zs).length ≤ sizeLine := by rw [List.length_append]; omega
  exact ⟨.ref _, _, I.lnew (t' := s.toks) (r.append r2) short, rfl, q _ I.fresh⟩
def dAddL : D → D → Option D
  | .lst xs, .lst ys => if xs.length + ys.length ≤ sizeLine then some (.lst (xs ++ ys)) else none
  | _, _ => none
theorem os_addL : OpS X (binaryOp .Add) dAddL := by
  refine ⟨_, op_catL, fun I H a b x y d Q l e rx ry k => ?_⟩
  unfold dAddL at e
  split at e
  · split at e
    · rename_i xs ys hc
      cases e
      obtain ⟨p, vs, rfl, h1, h2⟩ := R_lst.mp rx
      obtain ⟨q, ws, rfl, h3, h4⟩ := R_lst.mp ry
      refine ⟨p, q, vs, ws, rfl, rfl, l.sqL h1, l.sqL h3, by rw [← h2.length, ← h4.length]; exact hc, fun t ht => ?_⟩
      have ex := Ex.alloc (o := HO.lst (vs ++ ws)) l ht
      exact k _ _ _ ex (R_lst.mpr ⟨t, _, rfl, SqL.of upd_same, Rs.mono ex.le _ _ (h2.append h4)⟩)
    · cases e
  · cases e
def dAddT' : D → D → Option D
  | .tup xs, .tup ys => if xs.length + ys.length ≤ sizeLine then some (.tup (xs ++ ys)) else none
  | _, _ => none
theorem os_addT' : OpS X (binaryOp .Add) dAddT' := by
  refine ⟨_, op_catA, fun I H a b x y d Q l e rx ry k => ?_⟩
  unfold dAddT' at e
  split at e
  · split at e
    · rename_i xs ys hc
      cases e
      obtain ⟨p, vs, rfl, h1, h2⟩ := R_tup.mp rx
      obtain ⟨q, ws, rfl, h3, h4⟩ := R_tup.mp ry
      refine ⟨p, q, vs, ws, rfl, rfl, l.sqT h1, l.sqT h3, by rw [← h2.length, ← h4.length]; exact hc, fun z => ?_, fun _ z => ?_, fun _ _ t ht => ?_⟩
      · subst z
        have : xs = [] := List.length_eq_zero_iff.mp (by rw [h2.length]; rfl)
        subst this
        exact k I H _ (Ex.refl l) ry
      · subst z
        have : ys = [] := List.length_eq_zero_iff.mp (by rw [h4.length]; rfl)
        subst this
        rw [List.append_nil] at k
        exact k I H _ (Ex.refl l) rx
      · have ex := Ex.alloc (o := HO.tup (vs ++ ws)) l ht
        exact k _ _ _ ex (R_tup.mpr ⟨t, _, rfl, SqT.of upd_same, Rs.mono ex.le _ _ (h2.append h4)⟩)
    · cases e
  · cases e
/-- + of ints, texts, lists, tuples -/
def dAdd : D → D → Option D
  | .int i, .int j => some (.int (i + j))
  | .str i, .str j => if i.length + j.length ≤ sizeLine then some (.str (i ++ j)) else none
  | .lst xs, .lst ys => if xs.length + ys.length ≤ sizeLine then some (.lst (xs ++ ys)) else none
  | .tup xs, .tup ys => if xs.length + ys.length ≤ sizeLine then some (.tup (xs ++ ys)) else none
  | _, _ => none
theorem os_add : OpS X (binaryOp .Add) dAdd := (os_addI.or (os_addS.or (os_addL.or os_addT'))).eq fun a b => by
  cases a <;> cases b <;> simp only [dAdd, dOr, dAddI, dAddS, dAddL, dAddT'] <;> (split <;> first | rfl | (split <;> rfl))
def scV : D → Option V
  | .non => some .non
  | .bl b => some (.bl b)
  | .int i => some (.int i)
  | .str x => some (.str x)
  | _ => none
theorem scV_rel {K : PySem.W.Frag} {I : Hp} {d : D} {v w : V} (h : scV d = some w) (r : R K I d v) : v = w := by
  cases d <;> simp only [scV, Option.some.injEq, reduceCtorEq] at h <;> subst h
  · exact R_non.mp r
  · exact R_bl.mp r
  · exact R_int.mp r
  · exact R_str.mp r
mutual
def toPy : D → Option PyData
  | .non => some .none
  | .bl b => some (.bool b)
  | .int i => some (.int i)
  | .str x => some (.str x)
  | .tup xs => (toPys xs).map .tuple
  | .lst xs => (toPys xs).map .list
  | _ => none
def toPys : List D → Option (List PyData)
  | [] => some []
  | x :: xs => match toPy x, toPys xs with
    | some p, some ps => some (p :: ps)
    | _, _ => none
end
mutual
theorem toPy_dp {K : PySem.W.Frag} {I H : Hp} (l : Le I H) : ∀ (d : D) (p : PyData) (v : V), toPy d = some p → R K I d v → Dp K H v p
  | .non, p, v, e, r => by
    unfold toPy at e
    cases e
    rw [R_non.mp r]
    exact .non
  | .bl b, p, v, e, r => by
    unfold toPy at e
    cases e
    rw [R_bl.mp r]
    exact .bl b
  | .int b, p, v, e, r => by
    unfold toPy at e
    cases e
    rw [R_int.mp r]
    exact .int b
  | .str b, p, v, e, r => by
    unfold toPy at e
    cases e
    rw [R_str.mp r]
    exact .str b
  | .ty _, p, v, e, r => by unfold toPy at e; cases e
  | .cls _, p, v, e, r => by unfold toPy at e; cases e
  | .ins _ _ _, p, v, e, r => by unfold toPy at e; cases e
  | .tup xs, p, v, e, r => by
    unfold toPy at e
    obtain ⟨ps, e1, rfl⟩ := Option.map_eq_some_iff.mp e
    obtain ⟨a, vs, rfl, h1, h2⟩ := R_tup.mp r
    exact .tup (l.sqT h1) (toPys_dp l xs ps vs e1 h2)
  | .lst xs, p, v, e, r => by
    unfold toPy at e
    obtain ⟨ps, e1, rfl⟩ := Option.map_eq_some_iff.mp e
    obtain ⟨a, vs, rfl, h1, h2⟩ := R_lst.mp r
    exact .lst (l.sqL h1) (toPys_dp l xs ps vs e1 h2)
theorem toPys_dp {K : PySem.W.Frag} {I H : Hp} (l : Le I H) : ∀ (ds : List D) (ps : List PyData) (vs : List V), toPys ds = some ps → Rs K I ds vs → DpAll K H vs ps
  | [], ps, vs, e, r => by
    unfold toPys at e
    cases e
    rw [Rs_nil.mp r]
    exact .nil
  | x :: xs, ps, vs, e, r => by
    obtain ⟨v, w, rfl, h1, h2⟩ := Rs_cons.mp r
    unfold toPys at e
    split at e
    · rename_i p ps' e1 e2
      cases e
      exact .cons (toPy_dp l x p v e1 h1) (toPys_dp l xs ps' w e2 h2)
    · cases e
end
def dEqS : D → D → Option D := fun a b => match scV a, scV b with
  | some x, some y => if scal x y = true then some (.bl (decide (x = y))) else none
  | _, _ => none
def dEqP : D → D → Option D := fun a b => match toPy a, toPy b with
  | some x, some y => if SeqAt.shaped x = true ∧ SeqAt.shaped y = true then some (.bl (PyData.eqv x y)) else none
  | _, _ => none
def dNot : Option D → Option D
  | some (.bl b) => some (.bl (!b))
  | _ => none
/-- == of data -/
def dEq : D → D → Option D := dOr dEqS dEqP
def dNe : D → D → Option D := fun a b => dNot (dEq a b)
theorem dEqS_some {a b d : D} (h : dEqS a b = some d) : ∃ x y, scV a = some x ∧ scV b = some y ∧ scal x y = true ∧ d = .bl (decide (x = y)) := by
  unfold dEqS at h
  split at h
  · rename_i v w e1 e2
    split at h
    · rename_i hs
      cases h
      exact ⟨v, w, e1, e2, hs, rfl⟩
    · cases h
  · cases h
theorem dEqP_some {a b d : D} (h : dEqP a b = some d) : ∃ x y, toPy a = some x ∧ toPy b = some y ∧ SeqAt.shaped x = true ∧ SeqAt.shaped y = true ∧ d = .bl (PyData.eqv x y) := by
  unfold dEqP at h
  split at h
  · rename_i v w e1 e2
    split at h
    · rename_i hs
      cases h
      exact ⟨v, w, e1, e2, hs.1, hs.2, rfl⟩
    · cases h
  · cases h
theorem os_eq (hu : X.A.units + 64 < cLine) : OpS X (compareOp .Eq) dEq := by
  refine OpS.or ⟨_, op_eq, fun I H a b x y d Q l e rx ry k => ?_⟩ ⟨_, op_eqD hu, fun I H a b x y d Q l e rx ry k => ?_⟩
  · obtain ⟨v, w, e1, e2, hs, rfl⟩ := dEqS_some e
    rw [scV_rel e1 rx, scV_rel e2 ry]
    exact ⟨hs, k I H _ (Ex.refl l) (R_bl.mpr rfl)⟩
  · obtain ⟨v, w, e1, e2, hs, ht, rfl⟩ := dEqP_some e
    exact ⟨v, w, toPy_dp l a v x e1 rx, toPy_dp l b w y e2 ry, hs, ht, k I H _ (Ex.refl l) (R_bl.mpr rfl)⟩
theorem dNot_some {o : Option D} {d : D} (h : dNot o = some d) : ∃ b, o = some (.bl b) ∧ d = .bl (!b) := by
  unfold dNot at h
  split at h
  · cases h; exact ⟨_, rfl, rfl⟩
  · cases h
theorem os_ne (hu : X.A.units + 64 < cLine) : OpS X (compareOp .NotEq) dNe := by
  have h : OpS X (compareOp .NotEq) (dOr (fun a b => dNot (dEqS a b)) fun a b => dNot (dEqP a b)) := by
    refine OpS.or ⟨_, op_ne, fun I H a b x y d Q l e rx ry k => ?_⟩ ⟨_, op_neD hu, fun I H a b x y d Q l e rx ry k => ?_⟩
    · obtain ⟨q, e0, rfl⟩ := dNot_some e
      obtain ⟨v, w, e1, e2, hs, e3⟩ := dEqS_some e0
      cases e3
      rw [scV_rel e1 rx, scV_rel e2 ry]
      exact ⟨hs, k I H _ (Ex.refl l) (R_bl.mpr rfl)⟩
    · obtain ⟨q, e0, rfl⟩ := dNot_some e
      obtain ⟨v, w, e1, e2, hs, ht, e3⟩ := dEqP_some e0
      cases e3
      exact ⟨v, w, toPy_dp l a v x e1 rx, toPy_dp l b w y e2 ry, hs, ht, k I H _ (Ex.refl l) (R_bl.mpr rfl)⟩
  refine h.eq fun a b => ?_
  simp only [dNe, dEq, dOr]
  cases h1 : dEqS a b with
  | none => cases dEqP a b <;> rfl
  | some d =>
    obtain ⟨_, _, _, _, _, rfl⟩ := dEqS_some h1
    rfl
def isNon : D → Bool
  | .non => true
  | _ => false
def dIsN : D → D → Option D
  | a, .non => some (.bl (isNon a))
  | _, _ => none
theorem isN_rel {K : PySem.W.Frag} {I : Hp} {d : D} {v : V} (r : R K I d v) : decide (v = .non) = isNon d := by
  cases d with
  | non => rw [R_non.mp r]; rfl
  | bl => rw [R_bl.mp r]; rfl
  | int => rw [R_int.mp r]; rfl
  | str => rw [R_str.mp r]; rfl
  | ty => rw [R_ty.mp r]; rfl
  | cls => rw [R_cls.mp r]; rfl
  | tup => obtain ⟨_, _, rfl, _⟩ := R_tup.mp r; rfl
  | lst => obtain ⟨_, _, rfl, _⟩ := R_lst.mp r; rfl
  | ins => obtain ⟨_, _, _, rfl, _⟩ := R_ins.mp r; rfl
theorem os_isN : OpS X (compareOp .Is) dIsN := by
  refine ⟨_, op_isN, fun I H a b x y d Q l e rx ry k => ?_⟩
  cases b with
  | non =>
    cases e
    refine ⟨R_non.mp ry, ?_⟩
    rw [isN_rel rx]
    exact k I H _ (Ex.refl l) (R_bl.mpr rfl)
  | _ => cases e
def dNotN : D → D → Option D
  | a, .non => some (.bl (!isNon a))
  | _, _ => none
theorem os_notN : OpS X (compareOp .IsNot) dNotN := by
  refine ⟨_, op_notN, fun I H a b x y d Q l e rx ry k => ?_⟩
  cases b with
  | non =>
    cases e
    refine ⟨R_non.mp ry, ?_⟩
    rw [isN_rel rx]
    exact k I H _ (Ex.refl l) (R_bl.mpr rfl)
  | _ => cases e
end
end FL
set_option Elab.async false
set_option linter.all false
set_option maxRecDepth 100000
namespace FL
open PySem
open PySem.Spec
open L2
section
variable {X : Cx} {W : WX} {a b c e : Expr} {pos : Pos}
def mChain (g g' : D → D → Option D) (ca cb cc : M D) : M D := ca.bind fun x => cb.bind fun y => (M.opt (g x y)).bind fun z => match z with
  | .bl true => cc.bind fun w => M.opt (g' y w)
  | .bl false => M.ret (.bl false)
  | _ => M.fail
theorem sim_chain {K : PySem.W.Frag} {g g' : D → D → Option D} {r r' : R2} {ta tb tc : TE} {ca cb cc : M D} (hg : ∀ (I H : Hp) (a b : D) (x y : V) (d : D) (Q : VK), Le I H → g a b = some d → R K I a x → R K I b y → (∀ I' H' v, Ex I H I' H' → R K I' d v → Q v H') → r x y H Q)
    (hg' : ∀ (I H : Hp) (a b : D) (x y : V) (d : D) (Q : VK), Le I H → g' a b = some d → R K I a x → R K I b y → (∀ I' H' v, Ex I H I' H' → R K I' d v → Q v H') → r' x y H Q)
    (sa : SimE K W ta ca) (sb : SimE K W tb cb) (sc : SimE K W tc cc) : SimE K W (tChain r r' ta tb tc) (mChain g g' ca cb cc) := fun σ ev I H Q rel h => by
  refine sa σ ev I H _ rel ((Post.bind h).imp fun x ev1 I1 H1 s1 r1 h1 vx rx => ?_)
  refine sb σ ev1 I1 H1 _ r1 ((Post.bind h1).imp fun y ev2 I2 H2 s2 r2 h2 vy ry => ?_)
  obtain ⟨d, e, k⟩ := Post.opt (Post.bind h2)
  refine hg I2 H2 x y vx vy d _ r2.sub e (R.mono s2.le _ _ rx) ry fun I3 H3 v ex rv => ?_
  have h3 := k I3 H3 ex.step (r2.ex ex)
  have r3 := r2.ex ex
  cases d with
  | bl q =>
    refine ⟨q, R_bl.mp rv, ?_⟩
    cases q with
    | true =>
      rw [if_pos rfl]
      refine sc σ ev2 I3 H3 _ r3 ((Post.bind h3).imp fun w ev4 I4 H4 s4 r4 h4 vw rw' => ?_)
      obtain ⟨d, e, k⟩ := Post.opt h4
      exact hg' I4 H4 y w vy vw d Q r4.sub e (R.mono s4.le _ _ (R.mono ex.le _ _ ry)) rw' fun I' H' v ex rv => k I' H' ex.step (r4.ex ex) v rv
    | false =>
      rw [if_neg Bool.false_ne_true]
      exact Post.ret r3 h3 _ (R_bl.mpr rfl)
  | _ => exact h3.elim
theorem se_chain {op op' : CmpOp} {g g' : D → D → Option D} {ca cb cc : M D} (ho : OpS X (compareOp op) g) (ho' : OpS X (compareOp op') g') (ha : SE X W a ca) (hb : SE X W b cb) (hc : SE X W c cc)
    (hm : lastMarks [op, op'] [b, c] = false) : SE X W (.Compare a [op, op'] [b, c] pos) (mChain g g' ca cb cc) := by
  obtain ⟨r, ho, hg⟩ := ho
  obtain ⟨r', ho', hg'⟩ := ho'
  obtain ⟨ta, pa, sa⟩ := ha
  obtain ⟨tb, pb, sb⟩ := hb
  obtain ⟨tc, pc, sc⟩ := hc
  exact ⟨_, pe_chain ho ho' pa pb pc hm, sim_chain hg hg' sa sb sc⟩
def mAnd (ca cb : M D) : M D := ca.bind fun x => match x with
  | .bl true => cb
  | .bl false => M.ret (.bl false)
  | _ => M.fail
def mOr (ca cb : M D) : M D := ca.bind fun x => match x with
  | .bl true => M.ret (.bl true)
  | .bl false => cb
  | _ => M.fail
def mNot (ca : M D) : M D := ca.bind fun x => match x with
  | .bl q => M.ret (.bl (!q))
  | _ => M.fail
theorem se_and {rest : List Expr} {ca cb : M D} (ha : SE X W a ca) (hb : SE X W (.BoolOp .And (b :: rest) pos) cb) : SE X W (.BoolOp .And (a :: b :: rest) pos) (mAnd ca cb) := by
  obtain ⟨ta, pa, sa⟩ := ha
  obtain ⟨tb, pb, sb⟩ := hb
  refine ⟨_, pe_and pa pb, fun σ ev I H Q rel h => ?_⟩
  refine sa σ ev I H _ rel ((Post.bind h).imp fun x ev1 I1 H1 s1 r1 h1 vx rx => ?_)
  cases x with
  | bl q =>
    refine ⟨q, R_bl.mp rx, ?_⟩
    cases q with
    | true => rw [if_pos rfl]; exact sb σ ev1 I1 H1 Q r1 h1
    | false => rw [if_neg Bool.false_ne_true]; exact Post.ret r1 h1 _ (R_bl.mpr rfl)
  | _ => exact h1.elim
theorem se_or {rest : List Expr} {ca cb : M D} (ha : SE X W a ca) (hb : SE X W (.BoolOp .Or (b :: rest) pos) cb) : SE X W (.BoolOp .Or (a :: b :: rest) pos) (mOr ca cb) := by
  obtain ⟨ta, pa, sa⟩ := ha
  obtain ⟨tb, pb, sb⟩ := hb
  refine ⟨_, pe_or pa pb, fun σ ev I H Q rel h => ?_⟩
  refine sa σ ev I H _ rel ((Post.bind h).imp fun x ev1 I1 H1 s1 r1 h1 vx rx => ?_)
  cases x with
  | bl q =>
    refine ⟨q, R_bl.mp rx, ?_⟩
    cases q with
    | true => rw [if_pos rfl]; exact Post.ret r1 h1 _ (R_bl.mpr rfl)
    | false => rw [if_neg Bool.false_ne_true]; exact sb σ ev1 I1 H1 Q r1 h1
  | _ => exact h1.elim
theorem se_one {op : BoolOp} {ca : M D} (ha : SE X W a ca) : SE X W (.BoolOp op [a] pos) ca := by
  obtain ⟨ta, pa, sa⟩ := ha
  exact ⟨_, pe_one pa, sa⟩
theorem se_not {ca : M D} (ha : SE X W a ca) : SE X W (.UnaryOp .Not a pos) (mNot ca) := by
  obtain ⟨ta, pa, sa⟩ := ha
  refine ⟨_, pe_not pa, fun σ ev I H Q rel h => ?_⟩
  refine sa σ ev I H _ rel ((Post.bind h).imp fun x ev1 I1 H1 s1 r1 h1 vx rx => ?_)
  cases x with
  | bl q => exact ⟨q, R_bl.mp rx, Post.ret r1 h1 _ (R_bl.mpr rfl)⟩
  | _ => exact h1.elim
/-- one operand in, one value out -/
def UnS (X : Cx) (f : Value → Sem Value) (g : D → Option D) : Prop := ∃ r, UnR X f r ∧
  ∀ (I H : Hp) (a : D) (x : V) (d : D) (Q : VK), Le I H → g a = some d → R X.K I a x → (∀ I' H' v, Ex I H I' H' → R X.K I' d v → Q v H') → r x H Q
def m1 (g : D → Option D) (ca : M D) : M D := ca.bind fun x => M.opt (g x)
theorem sim1 {K : PySem.W.Frag} {g : D → Option D} {r : V → Hp → VK → Prop} {ta : TE} {ca : M D} (hg : ∀ (I H : Hp) (a : D) (x : V) (d : D) (Q : VK), Le I H → g a = some d → R K I a x → (∀ I' H' v, Ex I H I' H' → R K I' d v → Q v H') → r x H Q)
    (sa : SimE K W ta ca) : SimE K W (tUn r ta) (m1 g ca) := fun σ ev I H Q rel h =>
  sa σ ev I H _ rel ((Post.bind h).imp fun x ev1 I1 H1 s1 r1 h1 vx rx => by
    obtain ⟨d, e, k⟩ := Post.opt h1
    exact hg I1 H1 x vx d Q r1.sub e rx fun I' H' v ex rv => k I' H' ex.step (r1.ex ex) v rv)
theorem se_un {op : UnaryOp} {g : D → Option D} {ca : M D} (ho : UnS X (unaryOp op) g) (ha : SE X W a ca) : SE X W (.UnaryOp op a pos) (m1 g ca) := by
  obtain ⟨r, ho, hg⟩ := ho
  obtain ⟨ta, pa, sa⟩ := ha
  exact ⟨_, pe_un ho pa, sim1 hg sa⟩
def dNeg : D → Option D
  | .int i => some (.int (-i))
  | _ => none
theorem us_neg : UnS X (unaryOp .USub) dNeg := by
  refine ⟨_, un_neg, fun I H a x d Q l e rx k => ?_⟩
  cases a with
  | int i => cases e; exact ⟨i, R_int.mp rx, k I H _ (Ex.refl l) (R_int.mpr rfl)⟩
  | _ => cases e
def mT (ca : M D) : M Bool := ca.bind fun x => match x with
  | .bl q => M.ret q
  | _ => M.fail
theorem st_val {ca : M D} (ha : SE X W a ca) (he : ∀ whole, isTrue a X.env whole = (do let v ← whole; standAt a.pos; holding [v] (truthy v)) := by intro _; rfl) : STt X W a (mT ca) := by
  obtain ⟨ta, pa, sa⟩ := ha
  refine ⟨_, pt_val pa he, fun σ ev I H Q rel h => ?_⟩
  refine sa σ ev I H _ rel ((Post.bind h).imp fun x ev1 I1 H1 s1 r1 h1 vx rx => ?_)
  cases x with
  | bl q => exact ⟨q, R_bl.mp rx, Post.ret (α := Bool) r1 h1⟩
  | _ => exact h1.elim
def dTru : D → Option Bool
  | .non => some false
  | .bl q => some q
  | .int i => some (i != 0)
  | .str y => if y.length ≤ sizeLine then some ((y.length : Int) != 0) else none
  | .lst xs => some (!xs.isEmpty)
  | .tup xs => some (!xs.isEmpty)
  | _ => none
theorem Rs.isEmpty {K : PySem.W.Frag} {I : Hp} {ds : List D} {vs : List V} (h : Rs K I ds vs) : vs.isEmpty = ds.isEmpty := by
  cases ds with
  | nil => rw [Rs_nil.mp h]; rfl
  | cons x xs => obtain ⟨v, r, rfl, _⟩ := Rs_cons.mp h; rfl
theorem dTru_ok {K : PySem.W.Frag} {I H : Hp} (l : Le I H) {d : D} {v : V} {q : Bool} (e : dTru d = some q) (r : R K I d v) : TruV K v H q := by
  cases d with
  | non => cases e; rw [R_non.mp r]; rfl
  | bl b => cases e; rw [R_bl.mp r]; rfl
  | int b => cases e; rw [R_int.mp r]; rfl
  | str b =>
    rw [R_str.mp r]
    simp only [dTru] at e
    split at e
    · rename_i hc
      cases e
      exact ⟨hc, rfl⟩
    · cases e
  | lst xs =>
    cases e
    obtain ⟨p, vs, rfl, h1, h2⟩ := R_lst.mp r
    exact .inl ⟨vs, l.sqL h1, by rw [h2.isEmpty]⟩
  | tup xs =>
    cases e
    obtain ⟨p, vs, rfl, h1, h2⟩ := R_tup.mp r
    exact .inr (.inl ⟨vs, l.sqT h1, by rw [h2.isEmpty]⟩)
  | _ => cases e
def mTru (ca : M D) : M Bool := ca.bind fun x => M.opt (dTru x)
theorem st_tru {ca : M D} (ha : SE X W a ca) (he : ∀ whole, isTrue a X.env whole = (do let v ← whole; standAt a.pos; holding [v] (truthy v)) := by intro _; rfl) : STt X W a (mTru ca) := by
  obtain ⟨ta, pa, sa⟩ := ha
  refine ⟨_, pt_truth pa he, fun σ ev I H Q rel h => ?_⟩
  refine sa σ ev I H _ rel ((Post.bind h).imp fun x ev1 I1 H1 s1 r1 h1 vx rx => ?_)
  obtain ⟨q, e, k⟩ := Post.opt h1
  exact ⟨q, dTru_ok r1.sub e rx, k I1 H1 (Step.refl ..) r1⟩
def mTNot (ca : M Bool) : M Bool := ca.bind fun q => M.ret (!q)
theorem st_not {ca : M Bool} (ha : STt X W a ca) : STt X W (.UnaryOp .Not a pos) (mTNot ca) := by
  obtain ⟨ta, pa, sa⟩ := ha
  refine ⟨_, pt_not pa, fun σ ev I H Q rel h => ?_⟩
  exact sa σ ev I H _ rel ((Post.bind h).imp fun x ev1 I1 H1 s1 r1 h1 => Post.ret (α := Bool) r1 h1)
theorem st_cmp {op : CmpOp} {g : D → D → Option D} {ca cb : M D} (ho : OpS X (compareOp op) g) (ha : SE X W a ca) (hb : SE X W b cb) (hm : behindInMarks op b = false) : STt X W (.Compare a [op] [b] pos) (mT (m2 g ca cb)) := by
  obtain ⟨r, ho, hg⟩ := ho
  obtain ⟨ta, pa, sa⟩ := ha
  obtain ⟨tb, pb, sb⟩ := hb
  refine ⟨_, pt_cmpR ho pa pb hm, fun σ ev I H Q rel h => ?_⟩
  refine sim2 (W := W) hg sa sb σ ev I H _ rel ((Post.bind h).imp fun x ev1 I1 H1 s1 r1 h1 vx rx => ?_)
  cases x with
  | bl q => exact ⟨q, R_bl.mp rx, Post.ret (α := Bool) r1 h1⟩
  | _ => exact h1.elim
theorem st_chain {op op' : CmpOp} {g g' : D → D → Option D} {ca cb cc : M D} (ho : OpS X (compareOp op) g) (ho' : OpS X (compareOp op') g') (ha : SE X W a ca) (hb : SE X W b cb) (hc : SE X W c cc)
    (hm : lastMarks [op, op'] [b, c] = false) : STt X W (.Compare a [op, op'] [b, c] pos) (mT (mChain g g' ca cb cc)) := by
  obtain ⟨r, ho, hg⟩ := ho
  obtain ⟨r', ho', hg'⟩ := ho'
  obtain ⟨ta, pa, sa⟩ := ha
  obtain ⟨tb, pb, sb⟩ := hb
  obtain ⟨tc, pc, sc⟩ := hc
  refine ⟨_, pt_chain ho ho' pa pb pc hm, fun σ ev I H Q rel h => ?_⟩
  refine sim_chain (W := W) hg hg' sa sb sc σ ev I H _ rel ((Post.bind h).imp fun x ev1 I1 H1 s1 r1 h1 vx rx => ?_)
  cases x with
  | bl q => exact ⟨q, R_bl.mp rx, Post.ret (α := Bool) r1 h1⟩
  | _ => exact h1.elim
def STw (X : Cx) (W : WX) (e : Expr) (c : M Bool) : Prop := ∃ t, PW X e t ∧ SimT X.K W t c
def mTAnd (ca cb : M Bool) : M Bool := ca.bind fun q => if q = true then cb else M.ret false
def mTOr (ca cb : M Bool) : M Bool := ca.bind fun q => if q = true then M.ret true else cb
theorem stw_and1 {ca : M Bool} (ha : STt X W a ca) : STw X W (.BoolOp .And [a] pos) ca := by
  obtain ⟨ta, pa, sa⟩ := ha
  exact ⟨_, pw_and1 pa, sa⟩
theorem stw_or1 {ca : M Bool} (ha : STt X W a ca) : STw X W (.BoolOp .Or [a] pos) ca := by
  obtain ⟨ta, pa, sa⟩ := ha
  exact ⟨_, pw_or1 pa, sa⟩
theorem stw_and {rest : List Expr} {ca cb : M Bool} (ha : STt X W a ca) (hb : STw X W (.BoolOp .And (b :: rest) pos) cb) : STw X W (.BoolOp .And (a :: b :: rest) pos) (mTAnd ca cb) := by
  obtain ⟨ta, pa, sa⟩ := ha
  obtain ⟨tb, pb, sb⟩ := hb
  refine ⟨_, pw_and pa pb, fun σ ev I H Q rel h => ?_⟩
  refine sa σ ev I H _ rel ((Post.bind h).imp fun q ev1 I1 H1 s1 r1 h1 => ?_)
  cases q with
  | true => exact sb σ ev1 I1 H1 Q r1 h1
  | false => exact Post.ret (α := Bool) r1 h1
theorem stw_or {rest : List Expr} {ca cb : M Bool} (ha : STt X W a ca) (hb : STw X W (.BoolOp .Or (b :: rest) pos) cb) : STw X W (.BoolOp .Or (a :: b :: rest) pos) (mTOr ca cb) := by
  obtain ⟨ta, pa, sa⟩ := ha
  obtain ⟨tb, pb, sb⟩ := hb
  refine ⟨_, pw_or pa pb, fun σ ev I H Q rel h => ?_⟩
  refine sa σ ev I H _ rel ((Post.bind h).imp fun q ev1 I1 H1 s1 r1 h1 => ?_)
  cases q with
  | true => exact Post.ret (α := Bool) r1 h1
  | false => exact sb σ ev1 I1 H1 Q r1 h1
theorem st_w {ca : M Bool} (h : STw X W e ca) : STt X W e ca := by
  obtain ⟨t, p, s⟩ := h
  exact ⟨t, p.pt, s⟩
def mIf {α : Type} (ct : M Bool) (ca cb : M α) : M α := ct.bind fun q => if q = true then ca else cb
theorem se_if {ct : M Bool} {ca cb : M D} (hc : STt X W c ct) (ha : SE X W a ca) (hb : SE X W b cb) : SE X W (.IfExp c a b pos) (mIf ct ca cb) := by
  obtain ⟨tc, pc, sc⟩ := hc
  obtain ⟨ta, pa, sa⟩ := ha
  obtain ⟨tb, pb, sb⟩ := hb
  refine ⟨_, pe_ifExp pc pa pb, fun σ ev I H Q rel h => ?_⟩
  refine sc σ ev I H _ rel ((Post.bind h).imp fun q ev1 I1 H1 s1 r1 h1 => ?_)
  cases q with
  | true => exact sa σ ev1 I1 H1 Q r1 h1
  | false => exact sb σ ev1 I1 H1 Q r1 h1
def mNil : M (List D) := M.ret []
def mCons (ca : M D) (cr : M (List D)) : M (List D) := ca.bind fun x => cr.bind fun xs => M.ret (x :: xs)
theorem sa_nil : SA X W [] mNil := ⟨_, pa_nil, fun σ ev I H Q rel h => Post.ret rel h _ (Rs_nil.mpr rfl)⟩
theorem sa_cons {es : List Expr} {ca : M D} {cr : M (List D)} (ha : SE X W e ca) (hr : SA X W es cr) (hs : starEach (e :: es) X.env = (false, eval e X.env) :: starEach es X.env := by rfl) : SA X W (e :: es) (mCons ca cr) := by
  obtain ⟨ta, pa, sa⟩ := ha
  obtain ⟨tr, pr, sr⟩ := hr
  refine ⟨_, pa_cons pa pr hs, fun σ ev I H Q rel h => ?_⟩
  refine sa σ ev I H _ rel ((Post.bind h).imp fun x ev1 I1 H1 s1 r1 h1 vx rx => ?_)
  refine sr σ ev1 I1 H1 _ r1 ((Post.bind h1).imp fun xs ev2 I2 H2 s2 r2 h2 vs rs => ?_)
  exact Post.ret r2 h2 _ (Rs_cons.mpr ⟨_, _, rfl, R.mono s2.le _ _ rx, rs⟩)
def mTup (ca : M (List D)) : M D := ca.bind fun ds => M.opt (if ds.length ≤ sizeLine then some (.tup ds) else none)
theorem se_tup {es : List Expr} {x1} {ca : M (List D)} (ha : SA X W es ca) : SE X W (.Tuple es x1 pos) (mTup ca) := by
  obtain ⟨ta, pa, sa⟩ := ha
  refine ⟨_, pe_tup pa, fun σ ev I H Q rel h => ?_⟩
  refine sa σ ev I H _ rel ((Post.bind h).imp fun ds ev1 I1 H1 s1 r1 h1 vs rs => ?_)
  obtain ⟨d, e, k⟩ := Post.opt h1
  split at e
  · rename_i hz
    cases e
    refine ⟨by rw [← rs.length]; exact hz, fun p hp => ?_⟩
    have ex := Ex.alloc (o := HO.tup vs) r1.sub hp
    exact k _ _ ex.step (r1.ex ex) _ (R_tup.mpr ⟨p, vs, rfl, SqT.of upd_same, Rs.mono ex.le _ _ rs⟩)
  · cases e
/-- a new mutable thing: where it lies is told, and that nobody else has it -/
def RF (K : PySem.W.Frag) (σ : St) (H : Hp) (Q : VK) : Cell → Ev → Hp → Hp → Prop := fun c ev' I' H' => ∀ p, H p = none → I' p = none → ¬ Own σ ev' p → CellAt K I' H' p c → Q (.ref p) H'
def SEF (X : Cx) (W : WX) (e : Expr) (c : M Cell) : Prop := ∃ t, PE X e t ∧ ∀ (σ : St) (ev : Ev) (I H : Hp) (Q : VK), Rel X.K σ ev I H → Post X.K W c σ ev I H (RF X.K σ H Q) → t σ H Q
theorem Rel.fresh {K : PySem.W.Frag} {σ : St} {ev : Ev} {I H : Hp} (r : Rel K σ ev I H) {p : Addr} (h : H p = none) : I p = none ∧ ¬ Own σ ev p := by
  refine ⟨?_, ?_⟩
  · cases e : I p with
    | none => rfl
    | some o => rw [r.sub _ _ e] at h; cases h
  · rintro ⟨i, s, e, hc, hv⟩
    obtain ⟨q, c, h1, _, h3, _⟩ := r.cell e hc
    rw [hv] at h1
    cases h1
    exact h3.there h
def mLst (ca : M (List D)) : M Cell := ca.bind fun ds => M.opt (if ds.length ≤ sizeLine then some (.lst ds) else none)
theorem sef_lst {es : List Expr} {ca : M (List D)} (ha : SA X W es ca) : SEF X W (.List es pos) (mLst ca) := by
  obtain ⟨ta, pa, sa⟩ := ha
  refine ⟨_, pe_lst pa, fun σ ev I H Q rel h => ?_⟩
  refine sa σ ev I H _ rel ((Post.bind h).imp fun ds ev1 I1 H1 s1 r1 h1 vs rs => ?_)
  obtain ⟨d, e, k⟩ := Post.opt h1
  split at e
  · rename_i hz
    cases e
    refine ⟨by rw [← rs.length]; exact hz, fun p hp => ?_⟩
    have ex := Ex.laid (o := HO.lst vs) r1.sub hp
    have h0 : H p = none := Classical.byContradiction fun z => s1.there p z hp
    exact k _ _ ex.step (r1.ex ex) p h0 (r1.fresh hp).1 (r1.fresh hp).2 ⟨vs, upd_same, rs⟩
  · cases e
/-- from now on it is data -/
def fz : Cell → D
  | .lst xs => .lst xs
  | .ins C ks fs => .ins C ks fs
def mFz (c : M Cell) : M D := c.bind fun x => M.ret (fz x)
theorem freeze {K : PySem.W.Frag} {σ : St} {ev ev' : Ev} {I H I' H' : Hp} {p : Addr} {c : Cell} (s : Step σ ev I H σ ev' I' H') (r : Rel K σ ev' I' H') (h0 : H p = none ∨ LOwn σ ev p) (h1 : I' p = none) (h2 : ¬ Own σ ev' p) (hc : CellAt K I' H' p c) :
    ∃ I'', Step σ ev I H σ ev' I'' H' ∧ Rel K σ ev' I'' H' ∧ R K I'' (fz c) (.ref p) := by
  obtain ⟨o, e, hr⟩ : ∃ o, H' p = some o ∧ ∀ I'', Le I' I'' → I'' p = some o → R K I'' (fz c) (.ref p) := by
    cases c with
    | lst xs => obtain ⟨vs, e, rs⟩ := hc; exact ⟨_, e, fun I'' l q => R_lst.mpr ⟨p, vs, rfl, SqL.of q, Rs.mono l _ _ rs⟩⟩
    | ins C ks fs => obtain ⟨dx, vs, e, n, rs⟩ := hc; exact ⟨_, e, fun I'' l q => R_ins.mpr ⟨p, dx, vs, rfl, q, n, Rs.mono l _ _ rs⟩⟩
  have le : Le I' (upd I' p o) := fun a u q => by
    rw [upd_ne (ne_of_none q h1)]
    exact q
  refine ⟨upd I' p o, ⟨s.keep, s.there, s.le.trans le, fun a q1 q2 q3 => ?_, s.own, s.lown, s.bor⟩, ⟨r.len, fun a u q => ?_, fun i t q => ?_, r.sep⟩, hr _ le upd_same⟩
  · have hne : a ≠ p := fun z => by
      subst z
      rcases h0 with h0 | h0
      · exact q1 h0
      · exact q3 h0
    rw [upd_ne hne]
    exact s.new a q1 q2 q3
  · by_cases hp : a = p
    · subst hp
      rw [upd_same] at q
      cases q
      exact e
    · rw [upd_ne hp] at q
      exact r.sub a u q
  · obtain ⟨v, q1, q2⟩ := r.slot i t q
    refine ⟨v, q1, ?_⟩
    have cell : ∀ c' p', t.isCell = true → v = .ref p' → I' p' = none → CellAt K I' H' p' c' → (upd I' p o) p' = none ∧ CellAt K (upd I' p o) H' p' c' := fun c' p' hk hv q3 q4 => by
      have hne : p' ≠ p := fun z => h2 ⟨i, t, q, hk, by rw [q1, hv, z]⟩
      exact ⟨by rw [upd_ne hne]; exact q3, q4.mono le fun _ z => z⟩
    cases t with
    | d d => exact R.mono le _ _ q2
    | own c' => obtain ⟨p', hv, q3, q4⟩ := q2; exact ⟨p', hv, cell c' p' rfl hv q3 q4⟩
    | bor c' => obtain ⟨p', hv, q3, q4⟩ := q2; exact ⟨p', hv, cell c' p' rfl hv q3 q4⟩
theorem Post.fz {K : PySem.W.Frag} {ca : M Cell} {σ : St} {ev : Ev} {I H : Hp} {Q : VK} (h : Post K W (mFz ca) σ ev I H (RG K Q)) : Post K W ca σ ev I H (RF K σ H Q) := by
  unfold Post mFz M.bind at h
  unfold Post
  cases e : ca ev with
  | none => rw [e] at h; exact h
  | some o =>
    rw [e] at h
    cases o with
    | er x ev' => exact h
    | ok c ev' =>
      intro I' H' s r p h0 hI ho hc
      obtain ⟨I2, s2, r2, rr⟩ := freeze s r (.inl h0) hI ho hc
      exact h I2 H' s2 r2 _ rr
theorem se_fz {ca : M Cell} (h : SEF X W e ca) : SE X W e (mFz ca) := by
  obtain ⟨t, p, s⟩ := h
  exact ⟨t, p, fun σ ev I H Q rel h => s σ ev I H Q rel h.fz⟩
end
end FL
set_option Elab.async false
set_option linter.all false
set_option maxRecDepth 100000
namespace FL
open PySem
open PySem.Spec
open L2
/-- what a def hands back: data, or a new mutable thing -/
inductive RV where
  | d (d : D)
  | fr (c : Cell)
inductive FO where
  | ret (r : RV) (out : List SV)
  | raise (e : Err) (out : List SV)
/-- a def's mirror: from its arguments -/
abbrev FM := List SV → Option FO
def RVat (K : PySem.W.Frag) (H I' H' : Hp) : RV → V → Prop
  | .d d, v => R K I' d v
  | .fr c, v => ∃ p, v = .ref p ∧ H p = none ∧ I' p = none ∧ CellAt K I' H' p c
abbrev up {α : Type} (l : List α) : List (Option α) := l.map some
/-- the promise of a def whose mirror is m -/
def spF (K : PySem.W.Frag) (m : FM) : Sp := fun vs H Q E => ∃ (args : List SV) (I : Hp), Rel K (up vs) (up args) I H ∧ (∀ s ∈ args, s.isOwn = false) ∧
  match m args with
  | none => False
  | some (.ret r out) => ∀ v I' H', Step (up vs) (up args) I H (up vs) (up out) I' H' → Rel K (up vs) (up out) I' H' → RVat K H I' H' r v → Q v H'
  | some (.raise e out) => ∀ I' H' dd, Step (up vs) (up args) I H (up vs) (up out) I' H' → Rel K (up vs) (up out) I' H' → XD K I' H' dd e → E (.ref (cad K e.x)) (some dd) H'
inductive AR where
  | d (d : D)
  | sl (i : Nat)
def ArV (K : PySem.W.Frag) (I : Hp) (σ : St) : AR → V → Prop
  | .d d, v => R K I d v
  | .sl i, v => σ[i]? = some (some v)
def SimR (K : PySem.W.Frag) (W : WX) (t : TA) (c : M (List AR)) : Prop := ∀ (σ : St) (ev : Ev) (I H : Hp) (Q : List V → Hp → Prop), Rel K σ ev I H → Post K W c σ ev I H (fun ars _ I' H' => ∀ vs, Paired (ArV K I' σ) ars vs → Q vs H') → t σ H Q
def SR (X : Cx) (W : WX) (es : List Expr) (c : M (List AR)) : Prop := ∃ t, PA X es t ∧ SimR X.K W t c
def rNil : M (List AR) := M.ret []
def rCons (ca : M D) (cr : M (List AR)) : M (List AR) := ca.bind fun x => cr.bind fun xs => M.ret (.d x :: xs)
/-- a name: data, or a mutable thing that is lent -/
def mArV (i : Nat) : M AR := fun ev => match ev[i]? with
  | some (some (.d d)) => some (.ok (.d d) ev)
  | some (some (.own _)) => some (.ok (.sl i) ev)
  | some (some (.bor _)) => some (.ok (.sl i) ev)
  | _ => none
def rVar (i : Nat) (cr : M (List AR)) : M (List AR) := (mArV i).bind fun x => cr.bind fun xs => M.ret (x :: xs)
theorem ArV.mono {K : PySem.W.Frag} {I I' : Hp} {σ : St} (l : Le I I') {a : AR} {v : V} (h : ArV K I σ a v) : ArV K I' σ a v := by
  cases a with
  | d d => exact R.mono l _ _ h
  | sl i => exact h
section
variable {X : Cx} {W : WX} {e : Expr} {es : List Expr} {pos : Pos}
theorem sr_nil : SR X W [] rNil := ⟨_, pa_nil, fun σ ev I H Q rel h => Post.ret rel h _ .nil⟩
theorem sr_cons {ca : M D} {cr : M (List AR)} (ha : SE X W e ca) (hr : SR X W es cr) (hs : starEach (e :: es) X.env = (false, eval e X.env) :: starEach es X.env := by rfl) : SR X W (e :: es) (rCons ca cr) := by
  obtain ⟨ta, pa, sa⟩ := ha
  obtain ⟨tr, pr, sr⟩ := hr
  refine ⟨_, pa_cons pa pr hs, fun σ ev I H Q rel h => ?_⟩
  refine sa σ ev I H _ rel ((Post.bind h).imp fun x ev1 I1 H1 s1 r1 h1 vx rx => ?_)
  refine sr σ ev1 I1 H1 _ r1 ((Post.bind h1).imp fun xs ev2 I2 H2 s2 r2 h2 vs rs => ?_)
  exact Post.ret r2 h2 _ (.cons (show ArV X.K I2 σ (.d x) vx from R.mono s2.le _ _ rx) rs)
theorem sim_arv {K : PySem.W.Frag} (i : Nat) {σ : St} {ev : Ev} {I H : Hp} {Q : VK} (rel : Rel K σ ev I H) (h : Post K W (mArV i) σ ev I H fun a _ I' H' => ∀ v, ArV K I' σ a v → Q v H') : tVar i σ H Q := by
  unfold Post mArV at h
  split at h
  · exact h.elim
  · rename_i a ev' q
    split at q
    · rename_i d0 e0
      cases q
      obtain ⟨v, h1, h2⟩ := rel.slot i _ e0
      exact ⟨v, h1, h I H (Step.refl ..) rel v h2⟩
    · rename_i c0 e0
      cases q
      obtain ⟨v, h1, h2⟩ := rel.slot i _ e0
      exact ⟨v, h1, h I H (Step.refl ..) rel v h1⟩
    · rename_i c0 e0
      cases q
      obtain ⟨v, h1, h2⟩ := rel.slot i _ e0
      exact ⟨v, h1, h I H (Step.refl ..) rel v h1⟩
    · cases q
  · rename_i x ev' q
    split at q <;> cases q
theorem sr_var (i : Nat) {x : Str} {cr : M (List AR)} {p : Pos} (hN : X.N[i]? = some x) (hv : Vis X.env.scope x) (hr : SR X W es cr) (hs : starEach (.Name x p :: es) X.env = (false, eval (.Name x p) X.env) :: starEach es X.env := by rfl)
    (hd : (x == ("__debug__" : Str)) = false := by decide +kernel) (hcd : (x == ("__classdict__" : Str)) = false := by decide +kernel) : SR X W (.Name x p :: es) (rVar i cr) := by
  obtain ⟨tr, pr, sr⟩ := hr
  refine ⟨_, pa_cons (pe_var hN hv hd hcd) pr hs, fun σ ev I H Q rel h => ?_⟩
  refine sim_arv i rel ((Post.bind h).imp fun x ev1 I1 H1 s1 r1 h1 vx rx => ?_)
  refine sr σ ev1 I1 H1 _ r1 ((Post.bind h1).imp fun xs ev2 I2 H2 s2 r2 h2 vs rs => ?_)
  exact Post.ret r2 h2 _ (.cons (rx.mono s2.le) rs)
end
def arSV (ev : Ev) : AR → Option SV
  | .d d => some (.d d)
  | .sl i => match ev[i]? with
    | some (some (.own c)) => some (.bor c)
    | some (some (.bor c)) => some (.bor c)
    | _ => none
def arsSV (ev : Ev) : List AR → Option (List SV)
  | [] => some []
  | a :: r => match arSV ev a, arsSV ev r with
    | some s, some l => some (s :: l)
    | _, _ => none
def slotsOf : List AR → List Nat
  | [] => []
  | .d _ :: r => slotsOf r
  | .sl i :: r => i :: slotsOf r
def setCell (ev : Ev) (i : Nat) (c : Cell) : Ev := match ev[i]? with
  | some (some (.own _)) => ev.set i (some (.own c))
  | some (some (.bor _)) => ev.set i (some (.bor c))
  | _ => ev
def putB : List AR → List SV → Ev → Ev
  | .sl i :: ars, .bor c :: out, ev => putB ars out (setCell ev i c)
  | _ :: ars, _ :: out, ev => putB ars out ev
  | _, _, ev => ev
def kindTo (s : SV) (c : Cell) : SV := match s with
  | .own _ => .own c
  | .bor _ => .bor c
  | s => s
/-- the same kinds at the same places -/
def KE (ev ev' : Ev) : Prop := ev'.length = ev.length ∧ ∀ j : Nat, (∃ s c, ev[j]? = some (some s) ∧ s.isCell = true ∧ ev'[j]? = some (some (kindTo s c))) ∨ ev'[j]? = ev[j]?
theorem kindTo_kindTo (s : SV) (c c' : Cell) : kindTo (kindTo s c) c' = kindTo s c' := by cases s <;> rfl
theorem kindTo_cell (s : SV) (c : Cell) : (kindTo s c).isCell = s.isCell := by cases s <;> rfl
theorem kindTo_own (s : SV) (c : Cell) : (kindTo s c).isOwn = s.isOwn := by cases s <;> rfl
theorem KE.refl (ev : Ev) : KE ev ev := ⟨rfl, fun _ => .inr rfl⟩
theorem KE.trans {a b c : Ev} (h : KE a b) (g : KE b c) : KE a c := by
  refine ⟨g.1.trans h.1, fun j => ?_⟩
  rcases h.2 j with ⟨s, x, e1, e2, e3⟩ | e
  · rcases g.2 j with ⟨t, y, f1, f2, f3⟩ | f
    · rw [e3] at f1
      cases f1
      exact .inl ⟨s, y, e1, e2, by rw [f3, kindTo_kindTo]⟩
    · exact .inl ⟨s, x, e1, e2, by rw [f, e3]⟩
  · rcases g.2 j with ⟨t, y, f1, f2, f3⟩ | f
    · exact .inl ⟨t, y, by rw [← e, f1], f2, f3⟩
    · exact .inr (f.trans e)
theorem KE.cell {ev ev' : Ev} (h : KE ev ev') {j : Nat} {s : SV} (e : ev'[j]? = some (some s)) (hc : s.isCell = true) : ∃ t, ev[j]? = some (some t) ∧ t.isCell = true ∧ t.isOwn = s.isOwn := by
  rcases h.2 j with ⟨t, c, e1, e2, e3⟩ | q
  · rw [e] at e3
    cases e3
    exact ⟨t, e1, e2, (kindTo_own t c).symm⟩
  · exact ⟨s, by rw [← q, e], hc, rfl⟩
theorem KE.bor {ev ev' : Ev} (h : KE ev ev') {j : Nat} {c : Cell} (e : ev[j]? = some (some (.bor c))) : ∃ c', ev'[j]? = some (some (.bor c')) := by
  rcases h.2 j with ⟨t, x, e1, e2, e3⟩ | q
  · rw [e] at e1
    cases e1
    exact ⟨x, e3⟩
  · exact ⟨c, by rw [q, e]⟩
theorem setCell_at {ev : Ev} {i : Nat} {c : Cell} {s : SV} (e : ev[i]? = some (some s)) (hc : s.isCell = true) : (setCell ev i c)[i]? = some (some (kindTo s c)) := by
  have hi : i < ev.length := (List.getElem?_eq_some_iff.mp e).1
  unfold setCell
  cases s with
  | d d => cases hc
  | own x => rw [e]; simp [hi, kindTo]
  | bor x => rw [e]; simp [hi, kindTo]
theorem setCell_ne {ev : Ev} {i j : Nat} {c : Cell} (h : i ≠ j) : (setCell ev i c)[j]? = ev[j]? := by
  unfold setCell
  split
  · rw [List.getElem?_set_ne h]
  · rw [List.getElem?_set_ne h]
  · rfl
theorem setCell_ke (ev : Ev) (i : Nat) (c : Cell) : KE ev (setCell ev i c) := by
  refine ⟨?_, fun j => ?_⟩
  · unfold setCell
    split <;> simp
  · by_cases h : i = j
    · subst h
      cases e : ev[i]? with
      | none => right; unfold setCell; rw [e]; exact e
      | some o =>
        cases o with
        | none => right; unfold setCell; rw [e]; exact e
        | some s =>
          cases hc : s.isCell with
          | true => exact .inl ⟨s, c, rfl, hc, setCell_at e hc⟩
          | false =>
            cases s with
            | d d => right; unfold setCell; rw [e]; exact e
            | own x => cases hc
            | bor x => cases hc
    · exact .inr (setCell_ne h)
theorem putB_ke : ∀ (ars : List AR) (out : List SV) (ev : Ev), KE ev (putB ars out ev)
  | [], _, ev => by unfold putB; exact KE.refl ev
  | .d d :: ars, [], ev => by unfold putB; exact KE.refl ev
  | .sl i :: ars, [], ev => by unfold putB; exact KE.refl ev
  | .d d :: ars, s :: out, ev => by unfold putB; exact putB_ke ars out ev
  | .sl i :: ars, .d d :: out, ev => by unfold putB; exact putB_ke ars out ev
  | .sl i :: ars, .own c :: out, ev => by unfold putB; exact putB_ke ars out ev
  | .sl i :: ars, .bor c :: out, ev => by unfold putB; exact (setCell_ke ev i c).trans (putB_ke ars out _)
theorem putB_out : ∀ (ars : List AR) (out : List SV) (ev : Ev) (j : Nat), j ∉ slotsOf ars → (putB ars out ev)[j]? = ev[j]?
  | [], _, ev, j, _ => by unfold putB; rfl
  | .d d :: ars, [], ev, j, _ => by unfold putB; rfl
  | .sl i :: ars, [], ev, j, _ => by unfold putB; rfl
  | .d d :: ars, s :: out, ev, j, h => by unfold putB; exact putB_out ars out ev j (by unfold slotsOf at h; exact h)
  | .sl i :: ars, .d d :: out, ev, j, h => by unfold putB; exact putB_out ars out ev j (by unfold slotsOf at h; exact fun z => h (List.mem_cons_of_mem _ z))
  | .sl i :: ars, .own c :: out, ev, j, h => by unfold putB; exact putB_out ars out ev j (by unfold slotsOf at h; exact fun z => h (List.mem_cons_of_mem _ z))
  | .sl i :: ars, .bor c :: out, ev, j, h => by
    unfold slotsOf at h
    unfold putB
    rw [putB_out ars out _ j fun z => h (List.mem_cons_of_mem _ z)]
    exact setCell_ne fun z => h (by rw [z]; exact List.mem_cons_self ..)
theorem slots_mem : ∀ {ars : List AR} {i j : Nat}, ars[i]? = some (.sl j) → j ∈ slotsOf ars
  | [], i, j, h => by simp at h
  | a :: ars, 0, j, h => by
    have : a = .sl j := by simpa using h
    subst this
    exact List.mem_cons_self ..
  | a :: ars, i + 1, j, h => by
    have := slots_mem (ars := ars) (i := i) (j := j) (by simpa using h)
    cases a with
    | d d => exact this
    | sl k => exact List.mem_cons_of_mem _ this
theorem slots_inj : ∀ {ars : List AR} {i i' j : Nat}, (slotsOf ars).Nodup → ars[i]? = some (.sl j) → ars[i']? = some (.sl j) → i = i'
  | [], i, i', j, _, h, _ => by simp at h
  | a :: ars, 0, 0, j, _, _, _ => rfl
  | a :: ars, 0, i' + 1, j, n, h, g => by
    have e : a = .sl j := by simpa using h
    subst e
    unfold slotsOf at n
    exact absurd (slots_mem (i := i') (by simpa using g)) (List.nodup_cons.mp n).1
  | a :: ars, i + 1, 0, j, n, h, g => by
    have e : a = .sl j := by simpa using g
    subst e
    unfold slotsOf at n
    exact absurd (slots_mem (i := i) (by simpa using h)) (List.nodup_cons.mp n).1
  | a :: ars, i + 1, i' + 1, j, n, h, g => by
    have n' : (slotsOf ars).Nodup := by
      cases a with
      | d d => exact n
      | sl k => unfold slotsOf at n; exact (List.nodup_cons.mp n).2
    rw [slots_inj (ars := ars) (i := i) (i' := i') n' (by simpa using h) (by simpa using g)]
theorem putB_in : ∀ {ars : List AR} {out : List SV} {ev : Ev} {i j : Nat} {c : Cell} {s : SV}, (slotsOf ars).Nodup → ars[i]? = some (.sl j) → out[i]? = some (.bor c) → ev[j]? = some (some s) → s.isCell = true →
    (putB ars out ev)[j]? = some (some (kindTo s c))
  | [], _, _, i, j, c, s, _, h, _, _, _ => by simp at h
  | a :: ars, [], _, i, j, c, s, _, h, g, _, _ => by simp at g
  | a :: ars, o :: out, ev, 0, j, c, s, n, h, g, e, hc => by
    have e1 : a = .sl j := by simpa using h
    have e2 : o = .bor c := by simpa using g
    subst e1 e2
    unfold slotsOf at n
    unfold putB
    rw [putB_out _ _ _ _ (List.nodup_cons.mp n).1]
    exact setCell_at e hc
  | a :: ars, o :: out, ev, i + 1, j, c, s, n, h, g, e, hc => by
    have h' : ars[i]? = some (.sl j) := by simpa using h
    have g' : out[i]? = some (.bor c) := by simpa using g
    cases a with
    | d d => unfold putB; exact putB_in (i := i) (show (slotsOf ars).Nodup from n) h' g' e hc
    | sl k =>
      unfold slotsOf at n
      have n' := List.nodup_cons.mp n
      have hk : k ≠ j := fun z => n'.1 (by rw [z]; exact slots_mem h')
      cases o with
      | d d => unfold putB; exact putB_in (i := i) n'.2 h' g' e hc
      | own d => unfold putB; exact putB_in (i := i) n'.2 h' g' e hc
      | bor d => unfold putB; exact putB_in (i := i) n'.2 h' g' (by rw [setCell_ne hk]; exact e) hc
theorem arsSV_get {ev : Ev} : ∀ {ars : List AR} {args : List SV} {i : Nat} {s : SV}, arsSV ev ars = some args → args[i]? = some s → ∃ a, ars[i]? = some a ∧ arSV ev a = some s
  | [], args, i, s, h, e => by unfold arsSV at h; cases h; simp at e
  | a :: r, args, i, s, h, e => by
    unfold arsSV at h
    split at h
    · rename_i s0 l e1 e2
      cases h
      cases i with
      | zero =>
        have : s0 = s := by simpa using e
        subst this
        exact ⟨a, rfl, e1⟩
      | succ i =>
        obtain ⟨x, q1, q2⟩ := arsSV_get (i := i) (s := s) e2 (by simpa using e)
        exact ⟨x, by simpa using q1, q2⟩
    · cases h
theorem arsSV_len {ev : Ev} : ∀ {ars : List AR} {args : List SV}, arsSV ev ars = some args → args.length = ars.length
  | [], args, h => by unfold arsSV at h; cases h; rfl
  | a :: r, args, h => by
    unfold arsSV at h
    split at h
    · rename_i s0 l e1 e2
      cases h
      simp [arsSV_len e2]
    · cases h
theorem arsSV_own {ev : Ev} {ars : List AR} {args : List SV} (h : arsSV ev ars = some args) : ∀ s ∈ args, s.isOwn = false := fun s hs => by
  obtain ⟨i, hi⟩ := List.mem_iff_getElem?.mp hs
  obtain ⟨a, _, q⟩ := arsSV_get h hi
  cases a with
  | d d => cases q; rfl
  | sl j =>
    simp only [arSV] at q
    split at q <;> first | (cases q; rfl) | cases q
theorem Paired.get' {α β : Type} {F : α → β → Prop} : ∀ {l : List α} {m : List β} {i : Nat} {a : α}, Paired F l m → l[i]? = some a → ∃ b, m[i]? = some b ∧ F a b
  | _, _, i, a, .nil, e => by simp at e
  | _, _, 0, a, .cons r t, e => by
    have := Option.some.inj (by simpa using e)
    subst this
    exact ⟨_, rfl, r⟩
  | _, _, i + 1, a, .cons r t, e => by
    obtain ⟨b, h1, h2⟩ := Paired.get' (i := i) (a := a) t (by simpa using e)
    exact ⟨b, by simpa using h1, h2⟩
theorem Paired.len' {α β : Type} {F : α → β → Prop} : ∀ {l : List α} {m : List β}, Paired F l m → l.length = m.length
  | _, _, .nil => rfl
  | _, _, .cons _ t => by simp [Paired.len' t]
theorem up_get {α : Type} {l : List α} {i : Nat} {o : Option α} : (up l)[i]? = some o ↔ ∃ a, l[i]? = some a ∧ o = some a := by
  unfold up
  rw [List.getElem?_map]
  cases l[i]? with
  | none => simp
  | some a => simp [eq_comm]
end FL
set_option Elab.async false
set_option linter.all false
set_option maxRecDepth 100000
namespace FL
open PySem
open PySem.Spec
open L2
/-- what stands at the callee's i-th argument -/
theorem arg_at {K : PySem.W.Frag} {σ : St} {ev : Ev} {I H : Hp} {ars : List AR} {args : List SV} {vs : List V} {dds : List D} {dvs : List V} (r : Rel K σ ev I H) (ea : arsSV ev ars = some args) (p : Paired (ArV K I σ) ars vs) (rd : Rs K (fun _ => none) dds dvs)
    {i : Nat} {s : SV} (h : (args ++ dds.map SV.d)[i]? = some s) : (∃ d v, s = .d d ∧ (vs ++ dvs)[i]? = some v ∧ R K I d v) ∨
      ∃ j c t q, ars[i]? = some (.sl j) ∧ s = .bor c ∧ ev[j]? = some (some t) ∧ t.isCell = true ∧ σ[j]? = some (some (.ref q)) ∧ (vs ++ dvs)[i]? = some (.ref q) ∧ I q = none ∧ CellAt K I H q c := by
  have l1 := arsSV_len ea
  have l2 := Paired.len' p
  by_cases hi : i < args.length
  · rw [List.getElem?_append_left hi] at h
    obtain ⟨a, h1, h2⟩ := arsSV_get ea h
    obtain ⟨v, h3, h4⟩ := Paired.get' p h1
    have hv : (vs ++ dvs)[i]? = some v := by rw [List.getElem?_append_left (by omega)]; exact h3
    cases a with
    | d d => cases h2; exact .inl ⟨d, v, rfl, hv, h4⟩
    | sl j =>
      right
      simp only [arSV] at h2
      cases e : ev[j]? with
      | none => rw [e] at h2; cases h2
      | some o =>
        rw [e] at h2
        cases o with
        | none => cases h2
        | some t =>
          have hv' : σ[j]? = some (some v) := h4
          cases t with
          | d d => cases h2
          | own c =>
            cases h2
            obtain ⟨q, c', e1, e2, e3, e4⟩ := r.cell e rfl
            rw [hv'] at e1
            cases e1
            rcases e4 with e4 | e4 <;> cases e4
            exact ⟨j, c, _, q, h1, rfl, e, rfl, hv', hv, e2, e3⟩
          | bor c =>
            cases h2
            obtain ⟨q, c', e1, e2, e3, e4⟩ := r.cell e rfl
            rw [hv'] at e1
            cases e1
            rcases e4 with e4 | e4 <;> cases e4
            exact ⟨j, c, _, q, h1, rfl, e, rfl, hv', hv, e2, e3⟩
  · rw [List.getElem?_append_right (by omega), List.getElem?_map] at h
    cases e : dds[i - args.length]? with
    | none => rw [e] at h; cases h
    | some d =>
      rw [e] at h
      cases h
      obtain ⟨v, h1, h2⟩ := rd.get e
      refine .inl ⟨d, v, rfl, ?_, R.mono (fun _ _ z => by cases z) _ _ h2⟩
      rw [List.getElem?_append_right (by omega), ← l2, ← l1]
      exact h1
theorem call_rel {K : PySem.W.Frag} {σ : St} {ev : Ev} {I H : Hp} {ars : List AR} {args : List SV} {vs : List V} {dds : List D} {dvs : List V} (r : Rel K σ ev I H) (ea : arsSV ev ars = some args) (p : Paired (ArV K I σ) ars vs) (rd : Rs K (fun _ => none) dds dvs)
    (nd : (slotsOf ars).Nodup) : Rel K (up (vs ++ dvs)) (up (args ++ dds.map SV.d)) I H where
  len := by
    have l1 := arsSV_len ea
    have l2 := Paired.len' p
    have l3 := rd.length
    simp [up]
    omega
  sub := r.sub
  slot := fun i s e => by
    obtain ⟨s', h, q⟩ := up_get.mp e
    cases q
    rcases arg_at r ea p rd h with ⟨d, v, rfl, h1, h2⟩ | ⟨j, c, t, q, _, rfl, _, _, _, h1, h2, h3⟩
    · exact ⟨v, up_get.mpr ⟨v, h1, rfl⟩, h2⟩
    · exact ⟨_, up_get.mpr ⟨_, h1, rfl⟩, q, rfl, h2, h3⟩
  sep := fun i i' s t a e1 e2 c1 c2 g1 g2 => by
    obtain ⟨s', h, q⟩ := up_get.mp e1
    cases q
    obtain ⟨t', h', q⟩ := up_get.mp e2
    cases q
    obtain ⟨v1, g1, q⟩ := up_get.mp g1
    cases q
    obtain ⟨v2, g2, q⟩ := up_get.mp g2
    cases q
    rcases arg_at r ea p rd h with ⟨d, v, rfl, _, _⟩ | ⟨j, c, x, q, k1, rfl, k2, k3, k4, k5, _, _⟩
    · cases c1
    rcases arg_at r ea p rd h' with ⟨d, v, rfl, _, _⟩ | ⟨j', c', x', q', k1', rfl, k2', k3', k4', k5', _, _⟩
    · cases c2
    rw [g1] at k5
    cases k5
    rw [g2] at k5'
    cases k5'
    have := r.sep j j' _ _ _ k2 k2' k3 k3' k4 k4'
    subst this
    exact slots_inj nd k1 k1'
/-- a cell's list of places: those of the callee are ours -/
theorem call_own {K : PySem.W.Frag} {σ : St} {ev : Ev} {I H : Hp} {ars : List AR} {args : List SV} {vs : List V} {dds : List D} {dvs : List V} (r : Rel K σ ev I H) (ea : arsSV ev ars = some args) (p : Paired (ArV K I σ) ars vs) (rd : Rs K (fun _ => none) dds dvs)
    {a : Addr} (h : Own (up (vs ++ dvs)) (up (args ++ dds.map SV.d)) a) : Own σ ev a := by
  obtain ⟨i, s, e, hc, hv⟩ := h
  obtain ⟨s', h, q⟩ := up_get.mp e
  cases q
  obtain ⟨v, hv, q⟩ := up_get.mp hv
  cases q
  rcases arg_at r ea p rd h with ⟨d, v, rfl, _, _⟩ | ⟨j, c, x, q, k1, rfl, k2, k3, k4, k5, _, _⟩
  · cases hc
  · rw [hv] at k5
    cases k5
    exact ⟨j, x, k2, k3, k4⟩
theorem own_nodup {args : List SV} (h : ∀ s ∈ args, s.isOwn = false) {σ : St} {a : Addr} : ¬ LOwn σ (up args) a := by
  rintro ⟨i, s, e, ho, _⟩
  obtain ⟨s', h', q⟩ := up_get.mp e
  cases q
  rw [h _ (List.mem_of_getElem? h')] at ho
  cases ho
theorem app_own {args : List SV} (h : ∀ s ∈ args, s.isOwn = false) (dds : List D) : ∀ s ∈ args ++ dds.map SV.d, s.isOwn = false := fun s hs => by
  rcases List.mem_append.mp hs with hs | hs
  · exact h s hs
  · obtain ⟨d, _, rfl⟩ := List.mem_map.mp hs
    rfl
theorem slots_ex : ∀ {ars : List AR} {j : Nat}, j ∈ slotsOf ars → ∃ i : Nat, ars[i]? = some (AR.sl j)
  | [], j, h => by simp [slotsOf] at h
  | .d d :: ars, j, h => by
    obtain ⟨i, hi⟩ := slots_ex (ars := ars) (by unfold slotsOf at h; exact h)
    exact ⟨i + 1, by simpa using hi⟩
  | .sl k :: ars, j, h => by
    unfold slotsOf at h
    rcases List.mem_cons.mp h with rfl | h
    · exact ⟨0, rfl⟩
    · obtain ⟨i, hi⟩ := slots_ex h
      exact ⟨i + 1, by simpa using hi⟩
/-- behind the call: our frame -/
theorem call_back {K : PySem.W.Frag} {σ : St} {ev : Ev} {I H I' H' : Hp} {ars : List AR} {args out : List SV} {vs : List V} {dds : List D} {dvs : List V} (r : Rel K σ ev I H) (ea : arsSV ev ars = some args) (p : Paired (ArV K I σ) ars vs) (rd : Rs K (fun _ => none) dds dvs)
    (nd : (slotsOf ars).Nodup) (s : Step (up (vs ++ dvs)) (up (args ++ dds.map SV.d)) I H (up (vs ++ dvs)) (up out) I' H') (r' : Rel K (up (vs ++ dvs)) (up out) I' H') :
    Step σ ev I H σ (putB ars out ev) I' H' ∧ Rel K σ (putB ars out ev) I' H' := by
  have ke := putB_ke ars out ev
  have no := @own_nodup _ (app_own (arsSV_own ea) dds)
  have ownEq : ∀ a, Own σ (putB ars out ev) a → Own σ ev a := fun a ⟨j, t, e, hc, hv⟩ => by
    obtain ⟨t', e', hc', _⟩ := ke.cell e hc
    exact ⟨j, t', e', hc', hv⟩
  have lownEq : ∀ a, LOwn σ (putB ars out ev) a → LOwn σ ev a := fun a ⟨j, t, e, hc, hv⟩ => by
    obtain ⟨t', e', _, ho⟩ := ke.cell e (by cases t <;> first | rfl | (cases hc))
    exact ⟨j, t', e', ho.trans hc, hv⟩
  refine ⟨⟨fun a o h n => s.keep a o h fun w => n (call_own r ea p rd w), s.there, s.le, fun a h1 h2 _ => s.new a h1 h2 no, fun a w => .inl (ownEq a w), fun a w => .inl (lownEq a w), fun i c e => ⟨ke.bor e, rfl⟩⟩, ?_⟩
  refine ⟨by rw [ke.1]; exact r.len, r'.sub, fun j t e => ?_, fun i j s t a e1 e2 c1 c2 g1 g2 => ?_⟩
  · by_cases hj : j ∈ slotsOf ars
    · -- lent
      obtain ⟨i, hi⟩ := slots_ex hj
      have hl : i < args.length := by
        rw [arsSV_len ea]
        exact (List.getElem?_eq_some_iff.mp hi).1
      have ha : (args ++ dds.map SV.d)[i]? = some args[i] := by
        rw [List.getElem?_append_left hl]
        exact List.getElem?_eq_getElem hl
      rcases arg_at r ea p rd ha with ⟨d, v, e0, _, _⟩ | ⟨j', c, x, q, k1, k0, k2, k3, k4, k5, _, _⟩
      · exfalso
        obtain ⟨a, q1, q2⟩ := arsSV_get ea (show args[i]? = some args[i] from List.getElem?_eq_getElem hl)
        rw [hi] at q1
        cases q1
        rw [e0] at q2
        simp only [arSV] at q2
        split at q2 <;> cases q2
      · rw [hi] at k1
        cases k1
        obtain ⟨⟨c', b1⟩, b2⟩ := s.bor i c (up_get.mpr ⟨_, by rw [ha, k0], rfl⟩)
        obtain ⟨o, b1, b3⟩ := up_get.mp b1
        cases b3
        have put := putB_in nd hi b1 k2 k3
        rw [e] at put
        cases put
        obtain ⟨v, w1, w2⟩ := r'.slot i (.bor c') (up_get.mpr ⟨_, b1, rfl⟩)
        obtain ⟨v', w1, w3⟩ := up_get.mp w1
        cases w3
        rw [k5] at w1
        cases w1
        obtain ⟨q', hq, w3, w4⟩ := w2
        cases hq
        refine ⟨_, k4, ?_⟩
        cases x with
        | d d => cases k3
        | own d => exact ⟨q, rfl, w3, w4⟩
        | bor d => exact ⟨q, rfl, w3, w4⟩
    · rw [putB_out _ _ _ _ hj] at e
      obtain ⟨v, h1, h2⟩ := r.slot j t e
      refine ⟨v, h1, ?_⟩
      have cell : ∀ c q, t.isCell = true → v = .ref q → I q = none → CellAt K I H q c → I' q = none ∧ CellAt K I' H' q c := fun c q hk hv h3 h4 => by
        refine ⟨s.new q h4.there h3 no, h4.mono s.le fun o ho => s.keep q o ho fun w => ?_⟩
        obtain ⟨i, x, f1, f2, f3⟩ := w
        obtain ⟨x', f1, f4⟩ := up_get.mp f1
        cases f4
        obtain ⟨v', f3, f4⟩ := up_get.mp f3
        cases f4
        rcases arg_at r ea p rd f1 with ⟨d, v, rfl, _, _⟩ | ⟨j', c', y, q', k1, rfl, k2, k3, k4, k5, _, _⟩
        · cases f2
        · rw [f3] at k5
          cases k5
          have := r.sep j j' _ _ _ e k2 hk k3 (by rw [h1, hv]) k4
          subst this
          exact hj (slots_mem k1)
      cases t with
      | d d => exact R.mono s.le _ _ h2
      | own c => obtain ⟨q, hv, h3, h4⟩ := h2; exact ⟨q, hv, cell c q rfl hv h3 h4⟩
      | bor c => obtain ⟨q, hv, h3, h4⟩ := h2; exact ⟨q, hv, cell c q rfl hv h3 h4⟩
  · obtain ⟨s', e1', c1', _⟩ := ke.cell e1 c1
    obtain ⟨t', e2', c2', _⟩ := ke.cell e2 c2
    exact r.sep i j s' t' a e1' e2' c1' c2' g1 g2
def rvD : RV → D
  | .d d => d
  | .fr c => fz c
def callM {α : Type} (f : RV → Option α) (m : FM) (dds : List D) (ars : List AR) : M α := fun ev => match arsSV ev ars with
  | none => none
  | some args => if (slotsOf ars).Nodup then (match m (args ++ dds.map SV.d) with
    | none => none
    | some (.ret r out) => (f r).map fun a => .ok a (putB ars out ev)
    | some (.raise e out) => some (.er e (putB ars out ev))) else none
/-- f(..) as data -/
def mCall (m : FM) (dds : List D) (ca : M (List AR)) : M D := ca.bind fun ars => callM (fun r => some (rvD r)) m dds ars
def frC : RV → Option Cell
  | .fr c => some c
  | _ => none
/-- f(..), a new mutable thing -/
def mCallF (m : FM) (dds : List D) (ca : M (List AR)) : M Cell := ca.bind fun ars => callM frC m dds ars
/-- from the caller's word to the callee's promise -/
theorem sp_of {α : Type} {K : PySem.W.Frag} {W : WX} {f : RV → Option α} {m : FM} {dds : List D} {dvs : List V} {ars : List AR} {vs : List V} {σ : St} {ev : Ev} {I H : Hp} {G : α → Ev → Hp → Hp → Prop} {Q : VK} (r : Rel K σ ev I H) (h : Post K W (callM f m dds ars) σ ev I H G)
    (p : Paired (ArV K I σ) ars vs) (rd : Rs K (fun _ => none) dds dvs)
    (hq : ∀ rv a ev' I' H' v, f rv = some a → KE ev ev' → Step σ ev I H σ ev' I' H' → Rel K σ ev' I' H' → (∀ I'' , Step σ ev I H σ ev' I'' H' → Rel K σ ev' I'' H' → G a ev' I'' H') → RVat K H I' H' rv v → Q v H') : spF K m (vs ++ dvs) H Q (WE W σ) := by
  unfold Post callM at h
  cases ea : arsSV ev ars with
  | none => rw [ea] at h; exact h.elim
  | some args =>
    rw [ea] at h
    simp only at h
    by_cases nd : (slotsOf ars).Nodup
    · rw [if_pos nd] at h
      refine ⟨args ++ dds.map SV.d, I, call_rel r ea p rd nd, app_own (arsSV_own ea) dds, ?_⟩
      cases em : m (args ++ dds.map SV.d) with
      | none => rw [em] at h; exact h.elim
      | some o =>
        rw [em] at h
        cases o with
        | ret rv out =>
          simp only at h ⊢
          intro v I' H' s' r' rvv
          obtain ⟨s2, r2⟩ := call_back r ea p rd nd s' r'
          cases ef : f rv with
          | none => rw [ef] at h; exact h.elim
          | some a =>
            rw [ef] at h
            exact hq rv a _ I' H' v ef (putB_ke ..) s2 r2 (fun I'' s3 r3 => h I'' H' s3 r3) rvv
        | raise e out =>
          simp only at h ⊢
          intro I' H' dd s' r' xd
          obtain ⟨s2, r2⟩ := call_back r ea p rd nd s' r'
          exact h I' H' dd s2 r2 xd
    · rw [if_neg nd] at h
      exact h.elim
theorem KE.own {σ : St} {ev ev' : Ev} (ke : KE ev ev') {a : Addr} (h : Own σ ev' a) : Own σ ev a := by
  obtain ⟨j, t, e, hc, hv⟩ := h
  obtain ⟨t', e', hc', _⟩ := ke.cell e hc
  exact ⟨j, t', e', hc', hv⟩
theorem Rel.own_there {K : PySem.W.Frag} {σ : St} {ev : Ev} {I H : Hp} (r : Rel K σ ev I H) {p : Addr} (h : Own σ ev p) : H p ≠ none := fun z => (r.fresh z).2 h
theorem sp_data {K : PySem.W.Frag} {W : WX} {m : FM} {dds : List D} {dvs : List V} {ars : List AR} {vs : List V} {σ : St} {ev : Ev} {I H : Hp} {Q : VK} (r : Rel K σ ev I H) (h : Post K W (callM (fun r => some (rvD r)) m dds ars) σ ev I H (RG K Q))
    (p : Paired (ArV K I σ) ars vs) (rd : Rs K (fun _ => none) dds dvs) : spF K m (vs ++ dvs) H Q (WE W σ) :=
  sp_of r h p rd fun rv a ev' I' H' v ef ke s r' g rvv => by
    cases ef
    cases rv with
    | d d => exact g I' s r' v rvv
    | fr c =>
      obtain ⟨q, rfl, h0, h1, h2⟩ := rvv
      obtain ⟨I'', s2, r2, rr⟩ := freeze s r' (.inl h0) h1 (fun w => r.own_there (ke.own w) h0) h2
      exact g I'' s2 r2 _ rr
/-- a def of the text, by its mirror; dds: the defaults that fill up -/
def Dfn (P : Program) (w : World) (K : PySem.W.Frag) (mg : Str → Option Value) (base : Heap) (x : String) (k : Nat) (m : FM) (dds : List D) : Prop :=
  ∃ (f : Addr) (fd : FuncData) (ps : List Str) (dvs : List V) (ds : List Value), FnOk P w K mg base (L2.CX P w) k f fd ps (spF K m) ∧ mg (Str.ofString x) = some (.ref f) ∧ PySem.W.keepIn K (.ref f) = true ∧ Binds K fd ps ds ∧ Vals dvs ds ∧ Rs K (fun _ => none) dds dvs
theorem Dfn.mono {P : Program} {w : World} {K : PySem.W.Frag} {mg : Str → Option Value} {base : Heap} {x : String} {j k : Nat} {m : FM} {dds : List D} (h : Dfn P w K mg base x j m dds) (hk : j ≤ k) : Dfn P w K mg base x k m dds := by
  obtain ⟨f, fd, ps, dvs, ds, h1, h2⟩ := h
  exact ⟨f, fd, ps, dvs, ds, h1.mono hk, h2⟩
section
variable {X : Cx} {W : WX} {e : Expr} {es : List Expr} {pos p : Pos}
theorem se_call {x : String} {k : Nat} {m : FM} {dds : List D} {ca : M (List AR)} (F : Dfn X.prog X.w X.K X.mg X.base x k m dds) (hr : Room k X.A) (tk : Takes X W) (hg : Gl X (Str.ofString x)) (ha : SR X W (e :: es) ca)
    (hdb : (Str.ofString x == ("__debug__" : Str)) = false := by decide +kernel) (he : starEach (e :: es) X.env = (false, eval e X.env) :: starEach es X.env := by rfl) (hpl : (backTo pos (starEach es X.env)).any (·.1) = false := by rfl) :
    SE X W (.Call (.Name (Str.ofString x) p) (e :: es) [] pos) (mCall m dds ca) := by
  obtain ⟨f, fd, ps, dvs, ds, hF, hm, hk, hb, hd, rd⟩ := F
  obtain ⟨ta, pa, sa⟩ := ha
  refine ⟨_, pe_callSD (E := WE W) hF hr hg hm hk hb hd (passAt tk) pa hdb he hpl, fun σ ev I H Q rel h => ?_⟩
  exact sa σ ev I H _ rel ((Post.bind h).imp fun ars ev1 I1 H1 s1 r1 h1 vs pv => sp_data r1 h1 pv rd)
theorem sef_call {x : String} {k : Nat} {m : FM} {dds : List D} {ca : M (List AR)} (F : Dfn X.prog X.w X.K X.mg X.base x k m dds) (hr : Room k X.A) (tk : Takes X W) (hg : Gl X (Str.ofString x)) (ha : SR X W (e :: es) ca)
    (hdb : (Str.ofString x == ("__debug__" : Str)) = false := by decide +kernel) (he : starEach (e :: es) X.env = (false, eval e X.env) :: starEach es X.env := by rfl) (hpl : (backTo pos (starEach es X.env)).any (·.1) = false := by rfl) :
    SEF X W (.Call (.Name (Str.ofString x) p) (e :: es) [] pos) (mCallF m dds ca) := by
  obtain ⟨f, fd, ps, dvs, ds, hF, hm, hk, hb, hd, rd⟩ := F
  obtain ⟨ta, pa, sa⟩ := ha
  refine ⟨_, pe_callSD (E := WE W) hF hr hg hm hk hb hd (passAt tk) pa hdb he hpl, fun σ ev I H Q rel h => ?_⟩
  refine sa σ ev I H _ rel ((Post.bind h).imp fun ars ev1 I1 H1 s1 r1 h1 vs pv => sp_of r1 h1 pv rd fun rv a ev' I' H' v ef ke s r' g rvv => ?_)
  cases rv with
  | d d => cases ef
  | fr c =>
    cases ef
    obtain ⟨q, rfl, h0, h2, h3⟩ := rvv
    exact g I' s r' q (Classical.byContradiction fun z => s1.there q z h0) h2 (fun w => r1.own_there (ke.own w) h0) h3
end
end FL
set_option Elab.async false
set_option linter.all false
set_option maxRecDepth 100000
namespace FL
open PySem
open PySem.Spec
open L2
inductive OS where
  | nx (ev : Ev)
  | rt (r : RV) (ev : Ev)
  | bk (ev : Ev)
  | ct (ev : Ev)
  | er (e : Err) (ev : Ev)
abbrev MS := Ev → Option OS
def RVs (K : PySem.W.Frag) (σ : St) (ev : Ev) (H I' H' : Hp) : RV → V → Prop
  | .d d, v => R K I' d v
  | .fr c, v => ∃ p, v = .ref p ∧ (H p = none ∨ LOwn σ ev p) ∧ I' p = none ∧ CellAt K I' H' p c
def PostS (K : PySem.W.Frag) (W : WX) (c : MS) (σ : St) (ev : Ev) (I H : Hp) (D : Ends) : Prop :=
  match c ev with
  | none => False
  | some (.nx ev') => ∀ σ' I' H', Step σ ev I H σ' ev' I' H' → Rel K σ' ev' I' H' → D.nx σ' H'
  | some (.bk ev') => ∀ σ' I' H', Step σ ev I H σ' ev' I' H' → Rel K σ' ev' I' H' → D.bk σ' H'
  | some (.ct ev') => ∀ σ' I' H', Step σ ev I H σ' ev' I' H' → Rel K σ' ev' I' H' → D.ct σ' H'
  | some (.rt r ev') => ∀ σ' I' H' v, Step σ ev I H σ' ev' I' H' → Rel K σ' ev' I' H' → RVs K σ ev H I' H' r v → D.rt v H'
  | some (.er e ev') => ∀ σ' I' H' dd, Step σ ev I H σ' ev' I' H' → Rel K σ' ev' I' H' → XD K I' H' dd e → W (.ref (cad K e.x)) (some dd) σ' H'
def SimS (K : PySem.W.Frag) (W : WX) (t : TS) (c : MS) : Prop := ∀ (σ : St) (ev : Ev) (I H : Hp) (D : Ends), Rel K σ ev I H → PostS K W c σ ev I H D → t D σ H
def SS (X : Cx) (W : WX) (st : Stmt) (c : MS) : Prop := ∃ t, PS X st t ∧ SimS X.K W t c
def SB (X : Cx) (W : WX) (st : List Stmt) (c : MS) : Prop := ∃ t, PSs X st t ∧ SimS X.K W t c
/-- from a later point -/
theorem PostS.on {K : PySem.W.Frag} {W : WX} {c c' : MS} {σ σ1 : St} {ev ev1 : Ev} {I H I1 H1 : Hp} {D : Ends} (s : Step σ ev I H σ1 ev1 I1 H1) (e : c ev = c' ev1) (h : PostS K W c σ ev I H D) : PostS K W c' σ1 ev1 I1 H1 D := by
  unfold PostS at h ⊢
  rw [e] at h
  cases q : c' ev1 with
  | none => rw [q] at h; exact h
  | some o =>
    rw [q] at h
    cases o with
    | nx ev' => exact fun σ' I' H' s' => h σ' I' H' (s.trans s')
    | bk ev' => exact fun σ' I' H' s' => h σ' I' H' (s.trans s')
    | ct ev' => exact fun σ' I' H' s' => h σ' I' H' (s.trans s')
    | er x ev' => exact fun σ' I' H' dd s' => h σ' I' H' dd (s.trans s')
    | rt r ev' =>
      refine fun σ' I' H' v s' r' rv => h σ' I' H' v (s.trans s') r' ?_
      cases r with
      | d d => exact rv
      | fr c =>
        obtain ⟨p, e, h0, h1, h2⟩ := rv
        refine ⟨p, e, ?_, h1, h2⟩
        rcases h0 with h0 | h0
        · exact .inl (Classical.byContradiction fun z => s.there p z h0)
        · exact (s.lown p h0).symm
def sSeq (c1 c2 : MS) : MS := fun ev => match c1 ev with
  | some (.nx ev1) => c2 ev1
  | o => o
theorem PostS.seq {K : PySem.W.Frag} {W : WX} {c1 c2 : MS} {σ : St} {ev : Ev} {I H : Hp} {D : Ends} {nx : St → Hp → Prop} (h : PostS K W (sSeq c1 c2) σ ev I H D) (hn : ∀ σ1 ev1 I1 H1, Rel K σ1 ev1 I1 H1 → PostS K W c2 σ1 ev1 I1 H1 D → nx σ1 H1) :
    PostS K W c1 σ ev I H { D with nx := nx } := by
  have h0 := h
  unfold PostS sSeq at h
  unfold PostS
  cases q : c1 ev with
  | none => rw [q] at h; exact h
  | some o =>
    rw [q] at h
    cases o with
    | nx ev1 => exact fun σ1 I1 H1 s1 r1 => hn σ1 ev1 I1 H1 r1 (h0.on s1 (by unfold sSeq; rw [q]))
    | bk ev' => exact h
    | ct ev' => exact h
    | er x ev' => exact h
    | rt r ev' => exact h
/-- an expression's value goes on -/
def sE {α : Type} (ca : M α) (k : α → MS) : MS := fun ev => match ca ev with
  | none => none
  | some (.er e ev') => some (.er e ev')
  | some (.ok a ev') => k a ev'
theorem PostS.expr {α : Type} {K : PySem.W.Frag} {W : WX} {ca : M α} {k : α → MS} {σ : St} {ev : Ev} {I H : Hp} {D : Ends} (h : PostS K W (sE ca k) σ ev I H D) : Post K W ca σ ev I H fun a ev1 I1 H1 => PostS K W (k a) σ ev1 I1 H1 D := by
  have h0 := h
  unfold PostS sE at h
  unfold Post
  cases q : ca ev with
  | none => rw [q] at h; exact h
  | some o =>
    rw [q] at h
    cases o with
    | ok a ev1 => exact fun I1 H1 s1 r1 => h0.on s1 (by unfold sE; rw [q])
    | er x ev' => exact fun I' H' dd s r xd => h σ I' H' dd s r xd
theorem PostS.nx {K : PySem.W.Frag} {W : WX} {c : MS} {σ : St} {ev ev' : Ev} {I H : Hp} {D : Ends} (h : PostS K W c σ ev I H D) (e : c ev = some (.nx ev')) : ∀ σ' I' H', Step σ ev I H σ' ev' I' H' → Rel K σ' ev' I' H' → D.nx σ' H' := by
  unfold PostS at h
  rw [e] at h
  exact h
theorem PostS.rt {K : PySem.W.Frag} {W : WX} {c : MS} {σ : St} {ev ev' : Ev} {I H : Hp} {D : Ends} {r : RV} (h : PostS K W c σ ev I H D) (e : c ev = some (.rt r ev')) : ∀ σ' I' H' v, Step σ ev I H σ' ev' I' H' → Rel K σ' ev' I' H' → RVs K σ ev H I' H' r v → D.rt v H' := by
  unfold PostS at h
  rw [e] at h
  exact h
section
variable {X : Cx} {W : WX} {st : Stmt} {rest : List Stmt} {e : Expr} {pos : Pos}
theorem sb_nil : SB X W [] (fun ev => some (.nx ev)) := ⟨_, pss_nil, fun σ ev I H D rel h => h.nx rfl σ I H (Step.refl ..) rel⟩
theorem sb_cons {c1 c2 : MS} (h1 : SS X W st c1) (h2 : SB X W rest c2) : SB X W (st :: rest) (sSeq c1 c2) := by
  obtain ⟨t, p, s⟩ := h1
  obtain ⟨u, q, r⟩ := h2
  exact ⟨_, pss_cons p q, fun σ ev I H D rel h => s σ ev I H _ rel (h.seq fun σ1 ev1 I1 H1 r1 h1 => r σ1 ev1 I1 H1 D r1 h1)⟩
theorem sb_one {c1 : MS} (h1 : SS X W st c1) : SB X W [st] c1 := by
  obtain ⟨t, p, s⟩ := h1
  exact ⟨_, pss_one p, s⟩
/-- a slot gets data -/
def setD (i : Nat) (d : D) (ev : Ev) : Option Ev := match ev[i]? with
  | some (some (.bor _)) => none
  | _ => some (ev.set i (some (.d d)))
theorem setD_some {i : Nat} {d : D} {ev ev' : Ev} (h : setD i d ev = some ev') : ev' = ev.set i (some (.d d)) ∧ ∀ c, ev[i]? ≠ some (some (.bor c)) := by
  unfold setD at h
  split at h
  · cases h
  · rename_i hn
    cases h
    exact ⟨rfl, fun c z => hn c z⟩
theorem set_get {α : Type} {l : List α} {i j : Nat} {x y : α} (h : (l.set i x)[j]? = some y) : (i = j ∧ y = x) ∨ (i ≠ j ∧ l[j]? = some y) := by
  by_cases e : i = j
  · subst e
    by_cases hl : i < l.length
    · rw [List.getElem?_set_self hl] at h
      exact .inl ⟨rfl, (Option.some.inj h).symm⟩
    · rw [List.getElem?_eq_none (by simpa using hl)] at h
      cases h
  · rw [List.getElem?_set_ne e] at h
    exact .inr ⟨e, h⟩
theorem set_data {K : PySem.W.Frag} {σ : St} {ev ev' : Ev} {I H : Hp} {i : Nat} {d : D} {v : V} (r : Rel K σ ev I H) (e : setD i d ev = some ev') (rv : R K I d v) : Step σ ev I H (σ.set i (some v)) ev' I H ∧ Rel K (σ.set i (some v)) ev' I H := by
  obtain ⟨rfl, nb⟩ := setD_some e
  have own : ∀ (j : Nat) (s : SV), (ev.set i (some (.d d)))[j]? = some (some s) → s.isCell = true → i ≠ j ∧ ev[j]? = some (some s) := fun j s e hc => by
    rcases set_get e with ⟨_, q⟩ | q
    · cases q; cases hc
    · exact q
  have oc : ∀ s : SV, s.isOwn = true → s.isCell = true := fun s h => by cases s <;> first | rfl | cases h
  refine ⟨⟨fun a o h _ => h, fun _ h => h, Le.refl _, fun _ _ h _ => h, fun a ⟨j, s, e, hc, hv⟩ => ?_, fun a ⟨j, s, e, hc, hv⟩ => ?_, fun j c e => ?_⟩, ⟨by simp [r.len], r.sub, fun j s e => ?_, fun j k s t a e1 e2 c1 c2 g1 g2 => ?_⟩⟩
  · obtain ⟨hn, e'⟩ := own j s e hc
    rw [List.getElem?_set_ne hn] at hv
    exact .inl ⟨j, s, e', hc, hv⟩
  · obtain ⟨hn, e'⟩ := own j s e (oc s hc)
    rw [List.getElem?_set_ne hn] at hv
    exact .inl ⟨j, s, e', hc, hv⟩
  · have hn : i ≠ j := fun z => nb c (by rw [z]; exact e)
    exact ⟨⟨c, by rw [List.getElem?_set_ne hn]; exact e⟩, List.getElem?_set_ne hn⟩
  · rcases set_get e with ⟨rfl, q⟩ | ⟨hn, q⟩
    · cases q
      have hi : i < ev.length := by
        have := (List.getElem?_eq_some_iff.mp e).1
        simpa using this
      exact ⟨v, List.getElem?_set_self (by rw [← r.len]; exact hi), rv⟩
    · obtain ⟨w, h1, h2⟩ := r.slot j s q
      exact ⟨w, by rw [List.getElem?_set_ne hn]; exact h1, h2⟩
  · obtain ⟨n1, e1⟩ := own j s e1 c1
    obtain ⟨n2, e2⟩ := own k t e2 c2
    rw [List.getElem?_set_ne n1] at g1
    rw [List.getElem?_set_ne n2] at g2
    exact r.sep j k s t a e1 e2 c1 c2 g1 g2
def sOpt (f : Ev → Option Ev) : MS := fun ev => (f ev).map .nx
theorem PostS.opt {K : PySem.W.Frag} {W : WX} {f : Ev → Option Ev} {σ : St} {ev : Ev} {I H : Hp} {D : Ends} (h : PostS K W (sOpt f) σ ev I H D) : ∃ ev', f ev = some ev' ∧ ∀ σ' I' H', Step σ ev I H σ' ev' I' H' → Rel K σ' ev' I' H' → D.nx σ' H' := by
  unfold PostS sOpt at h
  cases e : f ev with
  | none => rw [e] at h; exact h.elim
  | some ev2 => rw [e] at h; exact ⟨ev2, rfl, h⟩
def sSet (i : Nat) (ca : M D) : MS := sE ca fun d => sOpt (setD i d)
theorem ss_set (i : Nat) {x : Str} {ca : M D} {p : Pos} (hN : X.N.Nodup) (hi : X.N[i]? = some x) (hx : Loc X.env.scope x) (hf : X.fn x = true ∨ X.env.scope.names.lookup x = some .local) (ha : SE X W e ca)
    (hs : swapsWithSole [.Name x p] e pos.line X.env = pure false := by rfl) (hw : swappedStores [.Name x p] e X.env = pure none := by rfl) (h1 : (assignEach [.Name x p] X.env).map (·.2) = [assign (.Name x p) X.env] := by rfl) : SS X W (.Assign [.Name x p] e pos) (sSet i ca) := by
  obtain ⟨ta, pa, sa⟩ := ha
  refine ⟨_, ps_asg pa (pg_name hN hi hx hf) hs hw h1, fun σ ev I H D rel h => ?_⟩
  refine sa σ ev I H _ rel (h.expr.imp fun d ev1 I1 H1 s1 r1 h1 v rv => ?_)
  obtain ⟨ev2, e, k⟩ := h1.opt
  obtain ⟨s2, r2⟩ := set_data r1 e rv
  exact k _ _ _ s2 r2
/-- a slot gets a new mutable thing -/
def setO (i : Nat) (c : Cell) (ev : Ev) : Option Ev := match ev[i]? with
  | some (some (.bor _)) => none
  | _ => some (ev.set i (some (.own c)))
theorem setO_some {i : Nat} {d : Cell} {ev ev' : Ev} (h : setO i d ev = some ev') : ev' = ev.set i (some (.own d)) ∧ ∀ c, ev[i]? ≠ some (some (.bor c)) := by
  unfold setO at h
  split at h
  · cases h
  · rename_i hn
    cases h
    exact ⟨rfl, fun c z => hn c z⟩
theorem set_cell {K : PySem.W.Frag} {σ σ0 : St} {ev ev' ev0 : Ev} {I H I0 H0 : Hp} {i : Nat} {c : Cell} {p : Addr} (s0 : Step σ0 ev0 I0 H0 σ ev I H) (r : Rel K σ ev I H) (e : setO i c ev = some ev') (h0 : H0 p = none) (hI : I p = none) (ho : ¬ Own σ ev p) (hc : CellAt K I H p c) :
    Step σ0 ev0 I0 H0 (σ.set i (some (.ref p))) ev' I H ∧ Rel K (σ.set i (some (.ref p))) ev' I H := by
  obtain ⟨rfl, nb⟩ := setO_some e
  have own : ∀ (j : Nat) (s : SV) (a : Addr), (ev.set i (some (.own c)))[j]? = some (some s) → s.isCell = true → (σ.set i (some (.ref p)))[j]? = some (some (.ref a)) → (i = j ∧ a = p ∧ s = .own c) ∨ (i ≠ j ∧ ev[j]? = some (some s) ∧ σ[j]? = some (some (.ref a))) := fun j s a e hc hv => by
    rcases set_get e with ⟨rfl, q⟩ | ⟨hn, q⟩
    · cases q
      rcases set_get hv with ⟨_, q⟩ | ⟨hn, _⟩
      · cases q; exact .inl ⟨rfl, rfl, rfl⟩
      · exact absurd rfl hn
    · rw [List.getElem?_set_ne hn] at hv
      exact .inr ⟨hn, q, hv⟩
  have oc : ∀ s : SV, s.isOwn = true → s.isCell = true := fun s h => by cases s <;> first | rfl | cases h
  refine ⟨⟨s0.keep, s0.there, s0.le, s0.new, fun a ⟨j, s, e, hc, hv⟩ => ?_, fun a ⟨j, s, e, hc, hv⟩ => ?_, fun j c' e => ?_⟩, ⟨by simp [r.len], r.sub, fun j s e => ?_, fun j k s t a e1 e2 c1 c2 g1 g2 => ?_⟩⟩
  · rcases own j s a e hc hv with ⟨_, rfl, _⟩ | ⟨_, q1, q2⟩
    · exact .inr h0
    · exact s0.own a ⟨j, s, q1, hc, q2⟩
  · rcases own j s a e (oc s hc) hv with ⟨_, rfl, _⟩ | ⟨_, q1, q2⟩
    · exact .inr h0
    · exact s0.lown a ⟨j, s, q1, hc, q2⟩
  · obtain ⟨⟨c1, e1⟩, e2⟩ := s0.bor j c' e
    have hn : i ≠ j := fun z => nb c1 (by rw [z]; exact e1)
    exact ⟨⟨c1, by rw [List.getElem?_set_ne hn]; exact e1⟩, by rw [List.getElem?_set_ne hn]; exact e2⟩
  · rcases set_get e with ⟨rfl, q⟩ | ⟨hn, q⟩
    · cases q
      have hi : i < ev.length := by
        have := (List.getElem?_eq_some_iff.mp e).1
        simpa using this
      exact ⟨_, List.getElem?_set_self (by rw [← r.len]; exact hi), p, rfl, hI, hc⟩
    · obtain ⟨w, h1, h2⟩ := r.slot j s q
      exact ⟨w, by rw [List.getElem?_set_ne hn]; exact h1, h2⟩
  · rcases own j s a e1 c1 g1 with ⟨rfl, rfl, _⟩ | ⟨n1, q1, q2⟩
    · rcases own k t a e2 c2 g2 with ⟨rfl, _, _⟩ | ⟨n2, q3, q4⟩
      · rfl
      · exact absurd ⟨k, t, q3, c2, q4⟩ ho
    · rcases own k t a e2 c2 g2 with ⟨rfl, rfl, _⟩ | ⟨n2, q3, q4⟩
      · exact absurd ⟨j, s, q1, c1, q2⟩ ho
      · exact r.sep j k s t a q1 q3 c1 c2 q2 q4
def sSetF (i : Nat) (ca : M Cell) : MS := sE ca fun c ev => (setO i c ev).map .nx
theorem ss_setF (i : Nat) {x : Str} {ca : M Cell} {p : Pos} (hN : X.N.Nodup) (hi : X.N[i]? = some x) (hx : Loc X.env.scope x) (hf : X.fn x = true ∨ X.env.scope.names.lookup x = some .local) (ha : SEF X W e ca)
    (hs : swapsWithSole [.Name x p] e pos.line X.env = pure false := by rfl) (hw : swappedStores [.Name x p] e X.env = pure none := by rfl) (h1 : (assignEach [.Name x p] X.env).map (·.2) = [assign (.Name x p) X.env] := by rfl) : SS X W (.Assign [.Name x p] e pos) (sSetF i ca) := by
  obtain ⟨ta, pa, sa⟩ := ha
  refine ⟨_, ps_asg pa (pg_name hN hi hx hf) hs hw h1, fun σ ev I H D rel h => ?_⟩
  refine sa σ ev I H _ rel ?_
  have h0 := h
  unfold PostS sSetF sE at h
  unfold Post
  cases q : ca ev with
  | none => rw [q] at h; exact h
  | some o =>
    rw [q] at h
    cases o with
    | er x ev' => exact fun I' H' dd s r xd => h σ I' H' dd s r xd
    | ok c ev1 =>
      intro I1 H1 s1 r1 p h2 h3 h4 h5
      simp only at h
      cases e : setO i c ev1 with
      | none => rw [e] at h; exact h.elim
      | some ev2 =>
        rw [e] at h
        obtain ⟨s2, r2⟩ := set_cell s1 r1 e h2 h3 h4 h5
        exact h _ _ _ s2 r2
def sRet (ca : M D) : MS := sE ca fun d ev => some (.rt (.d d) ev)
theorem ss_ret {ca : M D} (ha : SE X W e ca) : SS X W (.Return (some e) pos) (sRet ca) := by
  obtain ⟨ta, pa, sa⟩ := ha
  refine ⟨_, ps_ret pa, fun σ ev I H D rel h => ?_⟩
  exact sa σ ev I H _ rel (h.expr.imp fun d ev1 I1 H1 s1 r1 h1 v rv => h1.rt rfl σ I1 H1 v (Step.refl ..) r1 rv)
def sRetF (ca : M Cell) : MS := sE ca fun c ev => some (.rt (.fr c) ev)
theorem ss_retF {ca : M Cell} (ha : SEF X W e ca) : SS X W (.Return (some e) pos) (sRetF ca) := by
  obtain ⟨ta, pa, sa⟩ := ha
  refine ⟨_, ps_ret pa, fun σ ev I H D rel h => ?_⟩
  refine sa σ ev I H _ rel ?_
  unfold PostS sRetF sE at h
  unfold Post
  cases q : ca ev with
  | none => rw [q] at h; exact h
  | some o =>
    rw [q] at h
    cases o with
    | er x ev' => exact fun I' H' dd s r xd => h σ I' H' dd s r xd
    | ok c ev1 => exact fun I1 H1 s1 r1 p h2 h3 h4 h5 => h σ I1 H1 _ s1 r1 ⟨p, rfl, .inl h2, h3, h5⟩
/-- return of a name: data, or the frame's own mutable thing -/
def sRetV (i : Nat) : MS := fun ev => match ev[i]? with
  | some (some (.d d)) => some (.rt (.d d) ev)
  | some (some (.own c)) => some (.rt (.fr c) ev)
  | _ => none
theorem ss_retV (i : Nat) {x : Str} {p : Pos} (hN : X.N[i]? = some x) (hv : Vis X.env.scope x) (hd : (x == ("__debug__" : Str)) = false := by decide +kernel) (hcd : (x == ("__classdict__" : Str)) = false := by decide +kernel) : SS X W (.Return (some (.Name x p)) pos) (sRetV i) := by
  refine ⟨_, ps_ret (pe_var hN hv hd hcd), fun σ ev I H D rel h => ?_⟩
  unfold PostS sRetV at h
  cases e : ev[i]? with
  | none => rw [e] at h; exact h.elim
  | some o =>
    rw [e] at h
    cases o with
    | none => exact h.elim
    | some s =>
      obtain ⟨v, h1, h2⟩ := rel.slot i s e
      refine ⟨v, h1, ?_⟩
      cases s with
      | d d => exact h σ I H v (Step.refl ..) rel h2
      | own c =>
        obtain ⟨p, rfl, h3, h4⟩ := h2
        exact h σ I H _ (Step.refl ..) rel ⟨p, rfl, .inr ⟨i, _, e, rfl, h1⟩, h3, h4⟩
      | bor c => exact h.elim
theorem ss_retN : SS X W (.Return none pos) (fun ev => some (.rt (.d .non) ev)) := ⟨_, ps_retN, fun σ ev I H D rel h => h.rt rfl σ I H .non (Step.refl ..) rel (by show R X.K I .non .non; exact R_non.mpr rfl)⟩
def sExpr (ca : M D) : MS := sE ca fun _ ev => some (.nx ev)
theorem ss_expr {ca : M D} (ha : SE X W e ca) (hs : swapsWith e none pos.line X.env = pure false := by rfl) : SS X W (.Expr e pos) (sExpr ca) := by
  obtain ⟨ta, pa, sa⟩ := ha
  refine ⟨_, ps_expr pa hs, fun σ ev I H D rel h => ?_⟩
  refine sa σ ev I H _ rel ?_
  unfold PostS sExpr sE at h
  unfold Post
  cases q : ca ev with
  | none => rw [q] at h; exact h
  | some o =>
    rw [q] at h
    cases o with
    | er x ev' => exact fun I' H' dd s r xd => h σ I' H' dd s r xd
    | ok c ev1 => exact fun I1 H1 s1 r1 v _ => h σ I1 H1 s1 r1
theorem ss_pass : SS X W (.Pass pos) (fun ev => some (.nx ev)) := ⟨_, ps_pass, fun σ ev I H D rel h => h.nx rfl σ I H (Step.refl ..) rel⟩
theorem ss_break : SS X W (.Break pos) (fun ev => some (.bk ev)) := ⟨_, ps_break, fun σ ev I H D rel h => h σ I H (Step.refl ..) rel⟩
theorem ss_cont : SS X W (.Continue pos) (fun ev => some (.ct ev)) := ⟨_, ps_continue, fun σ ev I H D rel h => h σ I H (Step.refl ..) rel⟩
def sIf (ct : M Bool) (c1 c2 : MS) : MS := sE ct fun q => if q = true then c1 else c2
theorem ss_if {body orelse : List Stmt} {ct : M Bool} {c1 c2 : MS} (hc : STt X W e ct) (h1 : SB X W body c1) (h2 : SB X W orelse c2) : SS X W (.If e body orelse pos) (sIf ct c1 c2) := by
  obtain ⟨tc, pc, sc⟩ := hc
  obtain ⟨t1, p1, s1⟩ := h1
  obtain ⟨t2, p2, s2⟩ := h2
  refine ⟨_, ps_if pc p1 p2, fun σ ev I H D rel h => ?_⟩
  refine sc σ ev I H _ rel (h.expr.imp fun q ev1 I1 H1 st1 r1 h1 => ?_)
  cases q with
  | true => rw [if_pos rfl]; exact s1 σ ev1 I1 H1 D r1 h1
  | false => rw [if_neg Bool.false_ne_true]; exact s2 σ ev1 I1 H1 D r1 h1
end
end FL
set_option Elab.async false
set_option linter.all false
set_option maxRecDepth 100000
namespace FL
open PySem
open PySem.Spec
open L2
def outOf (s : SV) (o : Option SV) : SV := match s, o with
  | .bor _, some (.bor c) => .bor c
  | s, _ => s
def outs : List SV → Ev → List SV
  | [], _ => []
  | s :: r, [] => s :: outs r []
  | s :: r, o :: ev => outOf s o :: outs r ev
theorem outOf_none (s : SV) : outOf s none = s := by cases s <;> rfl
theorem outs_nil : ∀ (args : List SV), outs args [] = args
  | [] => rfl
  | s :: r => by unfold outs; rw [outs_nil r]
theorem outs_get : ∀ (args : List SV) (ev : Ev) (i : Nat), (outs args ev)[i]? = args[i]?.map fun s => outOf s (ev[i]?.join)
  | [], ev, i => by unfold outs; simp
  | s :: r, [], 0 => by unfold outs; simp [outOf_none]
  | s :: r, [], i + 1 => by
    unfold outs
    rw [outs_nil]
    simp only [List.getElem?_cons_succ, List.getElem?_nil, Option.join_none, outOf_none]
    cases r[i]? <;> rfl
  | s :: r, o :: ev, 0 => by unfold outs; simp
  | s :: r, o :: ev, i + 1 => by
    unfold outs
    simpa using outs_get r ev i
def mkF (n N : Nat) (body : MS) : FM := fun args => if args.length = n then (match body (up args ++ List.replicate (N - n) none) with
  | none => none
  | some (.nx ev) => some (.ret (.d .non) (outs args ev))
  | some (.rt r ev) => some (.ret r (outs args ev))
  | some (.er e ev) => some (.raise e (outs args ev))
  | _ => none) else none
theorem start_rel {K : PySem.W.Frag} {N : List Str} {vs : List V} {args : List SV} {I H : Hp} (r : Rel K (up vs) (up args) I H) : Rel K (L2.start N vs) (up args ++ List.replicate (N.length - args.length) none) I H := by
  have l0 : args.length = vs.length := by have := r.len; simpa [up] using this
  have g : ∀ (i : Nat) (s : SV), (up args ++ List.replicate (N.length - args.length) none)[i]? = some (some s) → (up args)[i]? = some (some s) ∧ i < args.length := fun i s e => by
    by_cases hi : i < args.length
    · rw [List.getElem?_append_left (by simpa [up] using hi)] at e
      exact ⟨e, hi⟩
    · rw [List.getElem?_append_right (by simpa [up] using hi), List.getElem?_replicate] at e
      split at e <;> cases e
  have v : ∀ i : Nat, i < args.length → (L2.start N vs)[i]? = (up vs)[i]? := fun i hi => by
    unfold L2.start
    rw [List.getElem?_append_left (by simp; omega)]
  refine ⟨by simp [L2.start, up, l0], r.sub, fun i s e => ?_, fun i j s t a e1 e2 c1 c2 g1 g2 => ?_⟩
  · obtain ⟨e', hi⟩ := g i s e
    obtain ⟨w, h1, h2⟩ := r.slot i s e'
    exact ⟨w, by rw [v i hi]; exact h1, h2⟩
  · obtain ⟨e1', h1⟩ := g i s e1
    obtain ⟨e2', h2⟩ := g j t e2
    rw [v i h1] at g1
    rw [v j h2] at g2
    exact r.sep i j s t a e1' e2' c1 c2 g1 g2
theorem fn_end {K : PySem.W.Frag} {N : List Str} {vs : List V} {args : List SV} {I H I' H' : Hp} {σ' : St} {ev' : Ev} (r : Rel K (up vs) (up args) I H) (no : ∀ s ∈ args, s.isOwn = false)
    (s : Step (L2.start N vs) (up args ++ List.replicate (N.length - args.length) none) I H σ' ev' I' H') (r' : Rel K σ' ev' I' H') :
    Step (up vs) (up args) I H (up vs) (up (outs args ev')) I' H' ∧ Rel K (up vs) (up (outs args ev')) I' H' := by
  have l0 : args.length = vs.length := by have := r.len; simpa [up] using this
  have g0 : ∀ (i : Nat) (s : SV), args[i]? = some s → (up args ++ List.replicate (N.length - args.length) none)[i]? = some (some s) ∧ (L2.start N vs)[i]? = (up vs)[i]? := fun i s e => by
    have hi : i < args.length := (List.getElem?_eq_some_iff.mp e).1
    refine ⟨?_, ?_⟩
    · rw [List.getElem?_append_left (by simpa [up] using hi)]
      exact up_get.mpr ⟨s, e, rfl⟩
    · unfold L2.start
      rw [List.getElem?_append_left (by simp; omega)]
  have gi : ∀ (i : Nat) (s : SV), (up args ++ List.replicate (N.length - args.length) none)[i]? = some (some s) → args[i]? = some s := fun i s e => by
    by_cases hi : i < args.length
    · rw [List.getElem?_append_left (by simpa [up] using hi)] at e
      obtain ⟨s', h, q⟩ := up_get.mp e
      cases q
      exact h
    · rw [List.getElem?_append_right (by simpa [up] using hi), List.getElem?_replicate] at e
      split at e <;> cases e
  have out : ∀ (i : Nat) (t : SV), (outs args ev')[i]? = some t → (∃ d, t = .d d ∧ args[i]? = some (.d d)) ∨ ∃ c c', t = .bor c' ∧ args[i]? = some (.bor c) ∧ ev'[i]? = some (some (.bor c')) ∧ σ'[i]? = (up vs)[i]? := fun i t e => by
    rw [outs_get] at e
    cases ea : args[i]? with
    | none => rw [ea] at e; cases e
    | some x =>
      rw [ea] at e
      have e2 : outOf x (ev'[i]?.join) = t := Option.some.inj e
      cases x with
      | d d => exact .inl ⟨d, by rw [← e2]; rfl, rfl⟩
      | own c => exact absurd (no _ (List.mem_of_getElem? ea)) (by intro z; cases z)
      | bor c =>
        obtain ⟨q1, q2⟩ := g0 i _ ea
        obtain ⟨⟨c', b1⟩, b2⟩ := s.bor i c q1
        refine .inr ⟨c, c', ?_, rfl, b1, b2.trans q2⟩
        rw [← e2, b1]
        rfl
  have own : ∀ a, Own (up vs) (up (outs args ev')) a → Own (up vs) (up args) a := fun a ⟨i, t, e, hc, hv⟩ => by
    obtain ⟨t', h, q⟩ := up_get.mp e
    cases q
    rcases out i _ h with ⟨d, rfl, _⟩ | ⟨c, c', rfl, h2, _, _⟩
    · cases hc
    · exact ⟨i, .bor c, up_get.mpr ⟨_, h2, rfl⟩, rfl, hv⟩
  have lown : ∀ a, LOwn (up vs) (up (outs args ev')) a → LOwn (up vs) (up args) a := fun a ⟨i, t, e, hc, hv⟩ => by
    obtain ⟨t', h, q⟩ := up_get.mp e
    cases q
    rcases out i _ h with ⟨d, rfl, _⟩ | ⟨c, c', rfl, h2, _, _⟩ <;> cases hc
  have own0 : ∀ a, Own (L2.start N vs) (up args ++ List.replicate (N.length - args.length) none) a → Own (up vs) (up args) a := fun a ⟨i, t, e, hc, hv⟩ => by
    have q := gi i t e
    rw [(g0 i t q).2] at hv
    exact ⟨i, t, up_get.mpr ⟨_, q, rfl⟩, hc, hv⟩
  have lown0 : ∀ a, ¬ LOwn (L2.start N vs) (up args ++ List.replicate (N.length - args.length) none) a := fun a ⟨i, t, e, hc, hv⟩ => by
    have q := gi i t e
    rw [no _ (List.mem_of_getElem? q)] at hc
    cases hc
  refine ⟨⟨fun a o h n => s.keep a o h fun w => n (own0 a w), s.there, s.le, fun a h1 h2 _ => s.new a h1 h2 (lown0 a), fun a w => .inl (own a w), fun a w => .inl (lown a w), fun i c e => ?_⟩, ⟨?_, r'.sub, fun i t e => ?_, fun i j t t' a e1 e2 c1 c2 g1 g2 => ?_⟩⟩
  · obtain ⟨x, h, q⟩ := up_get.mp e
    cases q
    obtain ⟨q1, q2⟩ := g0 i _ h
    obtain ⟨⟨c', b1⟩, b2⟩ := s.bor i c q1
    refine ⟨⟨c', up_get.mpr ⟨.bor c', ?_, rfl⟩⟩, rfl⟩
    rw [outs_get, h, b1]
    rfl
  · have : (outs args ev').length = args.length := by
      have h1 : ∀ i, (outs args ev')[i]? = none ↔ args[i]? = none := fun i => by
        rw [outs_get]
        cases args[i]? <;> simp
      apply Nat.le_antisymm
      · exact List.getElem?_eq_none_iff.mp ((h1 _).mpr (List.getElem?_eq_none_iff.mpr (Nat.le_refl _)))
      · exact List.getElem?_eq_none_iff.mp ((h1 _).mp (List.getElem?_eq_none_iff.mpr (Nat.le_refl _)))
    simp [up, this, l0]
  · obtain ⟨x, h, q⟩ := up_get.mp e
    cases q
    rcases out i _ h with ⟨d, rfl, h2⟩ | ⟨c, c', rfl, h2, h3, h4⟩
    · obtain ⟨v, h5, h6⟩ := r.slot i _ (up_get.mpr ⟨_, h2, rfl⟩)
      exact ⟨v, h5, R.mono s.le _ _ h6⟩
    · obtain ⟨v, h5, h6⟩ := r'.slot i _ h3
      exact ⟨v, by rw [← h4]; exact h5, h6⟩
  · obtain ⟨x, h, q⟩ := up_get.mp e1
    cases q
    obtain ⟨y, h', q⟩ := up_get.mp e2
    cases q
    rcases out i _ h with ⟨d, rfl, h2⟩ | ⟨c, c', rfl, h2, h3, h4⟩
    · cases c1
    rcases out j _ h' with ⟨d, rfl, h2'⟩ | ⟨c, c', rfl, h2', h3', h4'⟩
    · cases c2
    exact r.sep i j _ _ a (up_get.mpr ⟨_, h2, rfl⟩) (up_get.mpr ⟨_, h2', rfl⟩) rfl rfl g1 g2
section
variable {P : Program} {w : World} {K : PySem.W.Frag} {mg : Str → Option Value} {base : Heap} {qual : Str} {params : Arguments} {body : List Stmt} {scope : Scope} {dvs : List V} {kws : List (Str × V)} {f : Addr} {fd : FuncData} {x : Str} {N ps : List Str} {k : Nat} {c : MS}
/-- what an exception leaves to a def's caller -/
abbrev wDef (E : XK) : WX := fun cls d _ H => E cls d H
theorem fn_ok (F : FunD K x qual params body scope dvs kws f fd) (S : FnScope N ps scope)
    (hb : ∀ (cdv : Value) (A : Around) (outer : List Env) (s : Shared) (H : Hp) (E : XK), Room k (A.deeper (PyProof.Rows.envOfC qual scope s.heap.objs.size f cdv)) → SB (cxOf (L2.CX P w) P w K mg base N qual scope f cdv A outer s H E) (wDef E) body c) :
    FnOk P w K mg base (L2.CX P w) (k + 1) f fd ps (spF K (mkF ps.length N.length c)) := by
  have len : ∀ (vs : List V) (args : List SV) (I H : Hp), Rel K (up vs) (up args) I H → args.length = vs.length := fun vs args I H r => by have := r.len; simpa [up] using this
  refine F.ok S (fun vs H Q E h => ?_) fun cdv A outer s H vs Q E hr h => ?_
  · obtain ⟨args, I, rel, no, h⟩ := h
    unfold mkF at h
    by_cases e : args.length = ps.length
    · rw [← len vs args I H rel, e]
    · rw [if_neg e] at h
      exact h.elim
  · obtain ⟨args, I, rel, no, h⟩ := h
    obtain ⟨t, p, sim⟩ := hb cdv A outer s H E hr
    refine ⟨t, p, sim (L2.start N vs) (up args ++ List.replicate (N.length - args.length) none) I H _ (start_rel rel) ?_⟩
    unfold mkF at h
    by_cases e : args.length = ps.length
    · rw [if_pos e, ← e] at h
      unfold PostS
      cases q : c (up args ++ List.replicate (N.length - args.length) none) with
      | none => rw [q] at h; exact h
      | some o =>
        rw [q] at h
        cases o with
        | nx ev' =>
          intro σ' I' H' s' r'
          obtain ⟨s2, r2⟩ := fn_end rel no s' r'
          exact h .non I' H' s2 r2 (by show R K I' .non .non; exact R_non.mpr rfl)
        | rt rv ev' =>
          intro σ' I' H' v s' r' hv
          obtain ⟨s2, r2⟩ := fn_end rel no s' r'
          refine h v I' H' s2 r2 ?_
          cases rv with
          | d d => exact hv
          | fr c' =>
            obtain ⟨p, q1, q2, q3, q4⟩ := hv
            refine ⟨p, q1, q2.elim id fun z => ?_, q3, q4⟩
            obtain ⟨i, t, e1, e2, _⟩ := z
            exfalso
            by_cases hi : i < args.length
            · rw [List.getElem?_append_left (by simpa [up] using hi)] at e1
              obtain ⟨t', h5, h6⟩ := up_get.mp e1
              cases h6
              rw [no _ (List.mem_of_getElem? h5)] at e2
              cases e2
            · rw [List.getElem?_append_right (by simpa [up] using hi), List.getElem?_replicate] at e1
              split at e1 <;> cases e1
        | er e ev' =>
          intro σ' I' H' dd s' r' xd
          obtain ⟨s2, r2⟩ := fn_end rel no s' r'
          exact h I' H' dd s2 r2 xd
        | bk ev' => exact h.elim
        | ct ev' => exact h.elim
    · rw [if_neg e] at h
      exact h.elim
end
end FL
set_option Elab.async false
set_option linter.all false
set_option maxRecDepth 100000
namespace FL
open PySem
open PySem.Spec
open L2
def CallS (X : Cx) (f : Value) (g : List D → Option D) : Prop := ∃ r, CallR X f r ∧
  ∀ (I H : Hp) (ds : List D) (vs : List V) (d : D) (Q : VK), Le I H → g ds = some d → Rs X.K I ds vs → (∀ I' H' v, Ex I H I' H' → R X.K I' d v → Q v H') → r vs H Q
def mB (g : List D → Option D) (ca : M (List D)) : M D := ca.bind fun ds => M.opt (g ds)
theorem simB {K : PySem.W.Frag} {W : WX} {g : List D → Option D} {r : List V → Hp → VK → Prop} {ta : TA} {ca : M (List D)} (hg : ∀ (I H : Hp) (ds : List D) (vs : List V) (d : D) (Q : VK), Le I H → g ds = some d → Rs K I ds vs → (∀ I' H' v, Ex I H I' H' → R K I' d v → Q v H') → r vs H Q)
    (sa : SimA K W ta ca) : SimE K W (tCB r ta) (mB g ca) := fun σ ev I H Q rel h =>
  sa σ ev I H _ rel ((Post.bind h).imp fun x ev1 I1 H1 s1 r1 h1 vx rx => by
    obtain ⟨d, e, k⟩ := Post.opt h1
    exact hg I1 H1 x vx d Q r1.sub e rx fun I' H' v ex rv => k I' H' ex.step (r1.ex ex) v rv)
section
variable {X : Cx} {W : WX} {a b e : Expr} {es : List Expr} {pos p : Pos} {x : Str}
theorem se_callB {id : String} {g : List D → Option D} {ca : M (List D)} (hc : CallS X (.builtin id) g) (hm : X.mg x = none) (hg : Gl X x) (hv : bootBuiltins x = some (.builtin id)) (ha : SA X W (e :: es) ca) (hn : x ≠ "__name__" := by decide +kernel) (hdb : (x == ("__debug__" : Str)) = false := by decide +kernel)
    (he : starEach (e :: es) X.env = (false, eval e X.env) :: starEach es X.env := by rfl) (hpl : (backTo pos (starEach es X.env)).any (·.1) = false := by rfl) : SE X W (.Call (.Name x p) (e :: es) [] pos) (mB g ca) := by
  obtain ⟨r, hc, hq⟩ := hc
  obtain ⟨ta, pa, sa⟩ := ha
  exact ⟨_, pe_callB hc hg hm hv pa hn hdb he hpl, simB hq sa⟩
theorem se_callTy {T : String} {g : List D → Option D} {ca : M (List D)} (hc : CallS X (.type T) g) (hm : X.mg x = none) (hg : Gl X x) (hv : bootBuiltins x = some (.type T)) (ha : SA X W (e :: es) ca) (hn : x ≠ "__name__" := by decide +kernel) (hdb : (x == ("__debug__" : Str)) = false := by decide +kernel)
    (he : starEach (e :: es) X.env = (false, eval e X.env) :: starEach es X.env := by rfl) (hpl : (backTo pos (starEach es X.env)).any (·.1) = false := by rfl) : SE X W (.Call (.Name x p) (e :: es) [] pos) (mB g ca) := by
  obtain ⟨r, hc, hq⟩ := hc
  obtain ⟨ta, pa, sa⟩ := ha
  exact ⟨_, pe_callTy hc hg hm hv pa hn hdb he hpl, simB hq sa⟩
theorem Rs.one {K : PySem.W.Frag} {I : Hp} {d : D} {vs : List V} (h : Rs K I [d] vs) : ∃ v, vs = [v] ∧ R K I d v := by
  obtain ⟨v, r, rfl, h1, h2⟩ := Rs_cons.mp h
  rw [Rs_nil.mp h2]
  exact ⟨v, rfl, h1⟩
theorem Rs.two {K : PySem.W.Frag} {I : Hp} {d d' : D} {vs : List V} (h : Rs K I [d, d'] vs) : ∃ v w, vs = [v, w] ∧ R K I d v ∧ R K I d' w := by
  obtain ⟨v, r, rfl, h1, h2⟩ := Rs_cons.mp h
  obtain ⟨w, rfl, h3⟩ := h2.one
  exact ⟨v, w, rfl, h1, h3⟩
def gAbs : List D → Option D
  | [.int i] => some (.int (if i < 0 then -i else i))
  | _ => none
theorem cs_abs : CallS X (.builtin "abs") gAbs := by
  refine ⟨_, call_abs, fun I H ds vs d Q l e rs k => ?_⟩
  unfold gAbs at e
  split at e
  · cases e
    obtain ⟨v, rfl, h⟩ := rs.one
    rw [R_int.mp h]
    exact ⟨_, rfl, k I H _ (Ex.refl l) (R_int.mpr rfl)⟩
  · cases e
def gMax2 : List D → Option D
  | [.int i, .int j] => some (.int (if j > i then j else i))
  | _ => none
theorem cs_max2 (hc : X.calm = true) : CallS X (.builtin "max") gMax2 := by
  refine ⟨_, call_max2 hc, fun I H ds vs d Q l e rs k => ?_⟩
  unfold gMax2 at e
  split at e
  · cases e
    obtain ⟨v, w, rfl, h, h'⟩ := rs.two
    rw [R_int.mp h, R_int.mp h']
    exact ⟨_, _, rfl, k I H _ (Ex.refl l) (R_int.mpr rfl)⟩
  · cases e
def gMin2 : List D → Option D
  | [.int i, .int j] => some (.int (if j < i then j else i))
  | _ => none
theorem cs_min2 (hc : X.calm = true) : CallS X (.builtin "min") gMin2 := by
  refine ⟨_, call_min2 hc, fun I H ds vs d Q l e rs k => ?_⟩
  unfold gMin2 at e
  split at e
  · cases e
    obtain ⟨v, w, rfl, h, h'⟩ := rs.two
    rw [R_int.mp h, R_int.mp h']
    exact ⟨_, _, rfl, k I H _ (Ex.refl l) (R_int.mpr rfl)⟩
  · cases e
def gInt1 : List D → Option D
  | [.int i] => some (.int i)
  | [.bl q] => some (.int (if q then 1 else 0))
  | _ => none
theorem cs_int1 : CallS X (.type "int") gInt1 := by
  refine ⟨_, call_int1, fun I H ds vs d Q l e rs k => ?_⟩
  unfold gInt1 at e
  split at e
  · cases e
    obtain ⟨v, rfl, h⟩ := rs.one
    rw [R_int.mp h]
    exact .inl ⟨_, rfl, k I H _ (Ex.refl l) (R_int.mpr rfl)⟩
  · cases e
    obtain ⟨v, rfl, h⟩ := rs.one
    rw [R_bl.mp h]
    exact .inr ⟨_, rfl, k I H _ (Ex.refl l) (R_int.mpr rfl)⟩
  · cases e
def gStr1 : List D → Option D
  | [.int i] => if i.natAbs.log2 < 1920 then some (.str (toString i)) else none
  | _ => none
theorem cs_str1 : CallS X (.type "str") gStr1 := by
  refine ⟨_, call_str_int, fun I H ds vs d Q l e rs k => ?_⟩
  unfold gStr1 at e
  split at e
  · split at e
    · rename_i hc
      cases e
      obtain ⟨v, rfl, h⟩ := rs.one
      rw [R_int.mp h]
      exact ⟨_, rfl, hc, k I H _ (Ex.refl l) (R_str.mpr rfl)⟩
    · cases e
  · cases e
def lenD : D → Option Nat
  | .lst xs => some xs.length
  | .tup xs => some xs.length
  | .str y => if y.length ≤ sizeLine then some y.length else none
  | _ => none
theorem lenD_ok {K : PySem.W.Frag} {I H : Hp} (l : Le I H) {d : D} {v : V} {n : Nat} (e : lenD d = some n) (r : R K I d v) : LenV K v H n := by
  cases d with
  | lst xs =>
    cases e
    obtain ⟨p, vs, rfl, h1, h2⟩ := R_lst.mp r
    exact .inl ⟨vs, l.sqL h1, h2.length⟩
  | tup xs =>
    cases e
    obtain ⟨p, vs, rfl, h1, h2⟩ := R_tup.mp r
    exact .inr ⟨vs, l.sqT h1, h2.length⟩
  | str y =>
    rw [R_str.mp r]
    simp only [lenD] at e
    split at e
    · rename_i hc
      cases e
      exact ⟨hc, rfl⟩
    · cases e
  | _ => cases e
def gLen : List D → Option D
  | [d] => (lenD d).map fun (n : Nat) => D.int (n : Int)
  | _ => none
theorem cs_len : CallS X (.builtin "len") gLen := by
  refine ⟨_, call_len, fun I H ds vs d Q l e rs k => ?_⟩
  unfold gLen at e
  split at e
  · obtain ⟨n, e1, rfl⟩ := Option.map_eq_some_iff.mp e
    obtain ⟨v, rfl, h⟩ := rs.one
    exact ⟨v, n, rfl, lenD_ok l e1 h, k I H _ (Ex.refl l) (R_int.mpr rfl)⟩
  · cases e
/-- truth values -/
def blsD : List D → Option (List Bool)
  | [] => some []
  | .bl q :: r => (blsD r).map (q :: ·)
  | _ => none
theorem blsD_ok {K : PySem.W.Frag} {I : Hp} : ∀ {ds : List D} {bs : List Bool} {vs : List V}, blsD ds = some bs → Rs K I ds vs → vs = bs.map V.bl
  | [], bs, vs, e, r => by
    cases e
    rw [Rs_nil.mp r]
    rfl
  | d :: ds, bs, vs, e, r => by
    obtain ⟨v, w, rfl, h1, h2⟩ := Rs_cons.mp r
    cases d with
    | bl q =>
      simp only [blsD] at e
      obtain ⟨bs', e1, rfl⟩ := Option.map_eq_some_iff.mp e
      rw [R_bl.mp h1, blsD_ok e1 h2]
      rfl
    | _ => simp [blsD] at e
def gAll : List D → Option D
  | [.lst ds] => (blsD ds).map fun bs => .bl (bs.all id)
  | _ => none
def gAny : List D → Option D
  | [.lst ds] => (blsD ds).map fun bs => .bl (bs.any id)
  | _ => none
theorem cs_all (hc : X.calm = true) : CallS X (.builtin "all") gAll := by
  refine ⟨_, cr_all hc, fun I H ds vs d Q l e rs k => ?_⟩
  unfold gAll at e
  split at e
  · obtain ⟨bs, e1, rfl⟩ := Option.map_eq_some_iff.mp e
    obtain ⟨v, rfl, h⟩ := rs.one
    obtain ⟨p, ws, rfl, h1, h2⟩ := R_lst.mp h
    rw [blsD_ok e1 h2] at h1
    exact ⟨p, bs, rfl, l.sqL h1, k I H _ (Ex.refl l) (R_bl.mpr rfl)⟩
  · cases e
theorem cs_any (hc : X.calm = true) : CallS X (.builtin "any") gAny := by
  refine ⟨_, cr_any hc, fun I H ds vs d Q l e rs k => ?_⟩
  unfold gAny at e
  split at e
  · obtain ⟨bs, e1, rfl⟩ := Option.map_eq_some_iff.mp e
    obtain ⟨v, rfl, h⟩ := rs.one
    obtain ⟨p, ws, rfl, h1, h2⟩ := R_lst.mp h
    rw [blsD_ok e1 h2] at h1
    exact ⟨p, bs, rfl, l.sqL h1, k I H _ (Ex.refl l) (R_bl.mpr rfl)⟩
  · cases e
/-- a type's name: a built-in one, one of the text's -/
inductive TN where
  | b (n : String)
  | o (C : String)
  deriving DecidableEq
def tnV (K : PySem.W.Frag) : TN → Value
  | .b n => .type n
  | .o C => .ref (cad K C)
def tyN : D → Option TN
  | .non => some (.b "NoneType")
  | .bl _ => some (.b "bool")
  | .int _ => some (.b "int")
  | .str _ => some (.b "str")
  | .tup _ => some (.b "tuple")
  | .lst _ => some (.b "list")
  | .ins C _ _ => some (.o C)
  | _ => none
def clN : D → Option TN
  | .ty n => some (.b n)
  | .cls C => some (.o C)
  | _ => none
/-- an own class as isinstance sees it -/
structure InsTy (K : PySem.W.Frag) (C : Addr) : Prop where
  cl : Cls K C
  hcl : PySem.W.findIn K (.ref C) "__class__" = some (some (.builtin "object.__class__"))
  hgt : PySem.W.specialIn K (.builtin "object.__class__") "__get__" = some (some (.builtin "getset_descriptor.__get__"))
  htkn : PySem.W.takesIn K (.builtin "object.__class__") = some true
  hmro : PySem.W.mroIn K C (.type "object") = some true
theorem SqL.ty {K : PySem.W.Frag} {H : Hp} {a : Addr} {xs : List V} (h : SqL K H a xs) : TyX K H (.ref a) (.type "list") := by
  rcases h with (h | ⟨o, h⟩) | ⟨o, its, n, h1, h2, _⟩
  · exact .base (.lst h)
  · exact .base (.frz h)
  · exact .kList h1 h2
theorem SqT.ty {K : PySem.W.Frag} {H : Hp} {a : Addr} {xs : List V} (h : SqT K H a xs) : TyX K H (.ref a) (.type "tuple") := by
  rcases h with (h | ⟨o, h⟩) | ⟨o, its, n, h1, h2, _⟩
  · exact .base (.tup h)
  · exact .fTuple h
  · exact .kTuple h1 h2
/-- the table of what isinstance answers; ins: the own classes -/
structure KitT (K : PySem.W.Frag) (kt : List (TN × TN × Bool)) (ins : List String) : Prop where
  ok : ∀ r ∈ kt, PySem.W.kitOne K (tnV K r.1) (tnV K r.2.1) = some r.2.2
  ins : ∀ C ∈ ins, InsTy K (cad K C)
def lkT : List (TN × TN × Bool) → TN → TN → Option Bool
  | [], _, _ => none
  | r :: kt, t, u => if r.1 = t ∧ r.2.1 = u then some r.2.2 else lkT kt t u
theorem lkT_mem : ∀ {kt : List (TN × TN × Bool)} {t u : TN} {b : Bool}, lkT kt t u = some b → (t, u, b) ∈ kt
  | [], t, u, b, h => by cases h
  | r :: kt, t, u, b, h => by
    unfold lkT at h
    split at h
    · rename_i q
      obtain ⟨r1, r2, r3⟩ := r
      cases h
      obtain ⟨q1, q2⟩ := q
      simp only at q1 q2
      subst q1 q2
      exact List.mem_cons_self ..
    · exact List.mem_cons_of_mem _ (lkT_mem h)
def okIns (ins : List String) : D → Bool
  | .ins C _ _ => ins.contains C
  | _ => true
def gIsi (kt : List (TN × TN × Bool)) (ins : List String) : List D → Option D
  | [x, c] => match tyN x, clN c with
    | some t, some u => if okIns ins x then (lkT kt t u).map .bl else none
    | _, _ => none
  | _ => none
theorem tyN_ok {K : PySem.W.Frag} {I H : Hp} {kt : List (TN × TN × Bool)} {ins : List String} (T : KitT K kt ins) (l : Le I H) {d : D} {t : TN} {v : V} (e : tyN d = some t) (ho : okIns ins d = true) (r : R K I d v) : TyX K H v (tnV K t) := by
  cases d with
  | non => cases e; rw [R_non.mp r]; exact .base .non
  | bl => cases e; rw [R_bl.mp r]; exact .base (.bl _)
  | int => cases e; rw [R_int.mp r]; exact .base (.int _)
  | str => cases e; rw [R_str.mp r]; exact .base (.str _)
  | tup => cases e; obtain ⟨p, vs, rfl, h1, h2⟩ := R_tup.mp r; exact SqT.ty (l.sqT h1)
  | lst => cases e; obtain ⟨p, vs, rfl, h1, h2⟩ := R_lst.mp r; exact SqL.ty (l.sqL h1)
  | ins C ks fs =>
    cases e
    obtain ⟨p, dx, vs, rfl, h1, _, _⟩ := R_ins.mp r
    have q := T.ins C (by simpa [okIns] using ho)
    exact .base (.ins (l _ _ h1) q.cl q.hcl q.hgt q.htkn q.hmro)
  | _ => cases e
theorem clN_ok {K : PySem.W.Frag} {I : Hp} {d : D} {t : TN} {v : V} (e : clN d = some t) (r : R K I d v) : ClsV v (tnV K t) := by
  cases d with
  | ty n => cases e; rw [R_ty.mp r]; exact .ty n
  | cls C => cases e; rw [R_cls.mp r]; exact .own _
  | _ => cases e
theorem cs_isi {kt : List (TN × TN × Bool)} {ins : List String} (T : KitT X.K kt ins) : CallS X (.builtin "isinstance") (gIsi kt ins) := by
  refine ⟨_, call_isi, fun I H ds vs d Q l e rs k => ?_⟩
  unfold gIsi at e
  split at e
  · split at e
    · rename_i x c t u e1 e2
      split at e
      · rename_i ho
        obtain ⟨q, e3, rfl⟩ := Option.map_eq_some_iff.mp e
        obtain ⟨v, w, rfl, h1, h2⟩ := rs.two
        exact ⟨v, w, _, _, q, rfl, clN_ok e2 h2, tyN_ok T l e1 ho h1, T.ok _ (lkT_mem e3), k I H _ (Ex.refl l) (R_bl.mpr rfl)⟩
      · cases e
    · cases e
  · cases e
theorem Rs.atI {K : PySem.W.Frag} {I : Hp} {ds : List D} {vs : List V} {i : Int} {d : D} (h : Rs K I ds vs) (e : L2.atI ds i = some d) : ∃ v, L2.atI vs i = some v ∧ R K I d v := by
  unfold L2.atI at e ⊢
  rw [← h.length]
  cases q : ixN ds.length i with
  | none => rw [q] at e; cases e
  | some j => rw [q] at e; exact h.get e
def dIx : D → D → Option D
  | .lst xs, .int i => L2.atI xs i
  | .tup xs, .int i => L2.atI xs i
  | .str z, .int i => if z.length ≤ sizeLine then (L2.atI z.cps.toList i).map fun c => .str ⟨#[c]⟩ else none
  | _, _ => none
theorem ix_ok : ∀ (I H : Hp) (a b : D) (x y : V) (d : D) (Q : VK), Le I H → dIx a b = some d → R X.K I a x → R X.K I b y → (∀ I' H' v, Ex I H I' H' → R X.K I' d v → Q v H') → rIx X.K x y H Q := fun I H a b x y d Q l e rx ry k => by
  cases a with
  | lst xs =>
    cases b with
    | int i =>
      obtain ⟨p, vs, rfl, h1, h2⟩ := R_lst.mp rx
      obtain ⟨v, h3, h4⟩ := h2.atI (show L2.atI xs i = some d from e)
      exact .inl ⟨p, vs, i, v, rfl, R_int.mp ry, l.sqL h1, h3, k I H v (Ex.refl l) h4⟩
    | _ => cases e
  | tup xs =>
    cases b with
    | int i =>
      obtain ⟨p, vs, rfl, h1, h2⟩ := R_tup.mp rx
      obtain ⟨v, h3, h4⟩ := h2.atI (show L2.atI xs i = some d from e)
      exact .inr (.inl ⟨p, vs, i, v, rfl, R_int.mp ry, l.sqT h1, h3, k I H v (Ex.refl l) h4⟩)
    | _ => cases e
  | str z =>
    cases b with
    | int i =>
      simp only [dIx] at e
      split at e
      · rename_i hz
        obtain ⟨c, h3, rfl⟩ := Option.map_eq_some_iff.mp e
        exact .inr (.inr ⟨z, i, c, R_str.mp rx, R_int.mp ry, hz, h3, k I H _ (Ex.refl l) (R_str.mpr rfl)⟩)
      · cases e
    | _ => cases e
  | _ => cases e
theorem se_ix {ca cb : M D} (ha : SE X W a ca) (hb : SE X W b cb) (hs : PlainIx b := by exact fun _ _ => rfl) : SE X W (.Subscript a b pos) (m2 dIx ca cb) := by
  obtain ⟨ta, pa, sa⟩ := ha
  obtain ⟨tb, pb, sb⟩ := hb
  exact ⟨_, pe_ix ix_seq pa pb hs, sim2 ix_ok sa sb⟩
/-- an item of what a name holds: data, or a mutable list -/
def nmD (ev : Ev) (i : Nat) : Option D := match ev[i]? with
  | some (some (.d d)) => some d
  | some (some (.own c)) => some (fz c)
  | some (some (.bor c)) => some (fz c)
  | _ => none
/-- what a name holds, for a look -/
theorem peek {K : PySem.W.Frag} {σ : St} {ev : Ev} {I H : Hp} {i : Nat} {d : D} {v : V} (rel : Rel K σ ev I H) (e : nmD ev i = some d) (hv : σ[i]? = some (some v)) : ∃ J, Le I J ∧ Le J H ∧ R K J d v := by
  unfold nmD at e
  cases q : ev[i]? with
  | none => rw [q] at e; cases e
  | some o =>
    rw [q] at e
    cases o with
    | none => cases e
    | some s =>
      obtain ⟨w, h1, h2⟩ := rel.slot i s q
      rw [hv] at h1
      cases h1
      have cell : ∀ c p, v = .ref p → I p = none → CellAt K I H p c → ∃ J, Le I J ∧ Le J H ∧ R K J (fz c) v := fun c p hv h3 h4 => by
        subst hv
        have grow : ∀ o, H p = some o → Le I (upd I p o) ∧ Le (upd I p o) H := fun o ho => by
          refine ⟨fun a u q => by rw [upd_ne (ne_of_none q h3)]; exact q, fun a u q => ?_⟩
          by_cases z : a = p
          · subst z; rw [upd_same] at q; cases q; exact ho
          · rw [upd_ne z] at q; exact rel.sub a u q
        cases c with
        | lst xs =>
          obtain ⟨vs, e, rs⟩ := h4
          obtain ⟨g1, g2⟩ := grow _ e
          exact ⟨_, g1, g2, R_lst.mpr ⟨p, vs, rfl, SqL.of upd_same, Rs.mono g1 _ _ rs⟩⟩
        | ins C ks fs =>
          obtain ⟨dx, vs, e, n, rs⟩ := h4
          obtain ⟨g1, g2⟩ := grow _ e
          exact ⟨_, g1, g2, R_ins.mpr ⟨p, dx, vs, rfl, upd_same, n, Rs.mono g1 _ _ rs⟩⟩
      cases s with
      | d d => cases e; exact ⟨I, Le.refl _, rel.sub, h2⟩
      | own c => cases e; obtain ⟨p, hv, h3, h4⟩ := h2; exact cell c p hv h3 h4
      | bor c => cases e; obtain ⟨p, hv, h3, h4⟩ := h2; exact cell c p hv h3 h4
theorem peek_set {K : PySem.W.Frag} {σ : St} {ev : Ev} {I H : Hp} {i : Nat} {s : SV} (rel : Rel K σ ev I H) (e : ev[i]? = some (some s)) : ∃ v, σ[i]? = some (some v) := by
  obtain ⟨v, h, _⟩ := rel.slot i s e
  exact ⟨v, h⟩
/-- a name that must hold something, then the rest -/
def mNm {α : Type} (i : Nat) (c : M α) : M α := fun ev => match ev[i]? with
  | some (some _) => c ev
  | _ => none
theorem Post.nm {α : Type} {K : PySem.W.Frag} {W : WX} {i : Nat} {c : M α} {σ : St} {ev : Ev} {I H : Hp} {G : α → Ev → Hp → Hp → Prop} (rel : Rel K σ ev I H) (h : Post K W (mNm i c) σ ev I H G) : (∃ v, σ[i]? = some (some v)) ∧ Post K W c σ ev I H G := by
  unfold Post mNm at h
  cases q : ev[i]? with
  | none => rw [q] at h; exact h.elim
  | some o =>
    rw [q] at h
    cases o with
    | none => exact h.elim
    | some s => exact ⟨peek_set rel q, h⟩
/-- an item: the list's own data, wherever the list stands -/
def itemOf (ev : Ev) (i : Nat) (y : D) : Option D := match ev[i]? with
  | some (some (.d d)) => dIx d y
  | some (some (.own (.lst xs))) => dIx (.lst xs) y
  | some (some (.bor (.lst xs))) => dIx (.lst xs) y
  | _ => none
def mIxN (i : Nat) (cb : M D) : M D := mNm i (cb.bind fun y ev => (itemOf ev i y).map fun r => .ok r ev)
theorem itemOf_ok {σ : St} {ev : Ev} {I H : Hp} {i : Nat} {y d : D} {v vy : V} {Q : VK} (rel : Rel X.K σ ev I H) (e : itemOf ev i y = some d) (hv : σ[i]? = some (some v)) (ry : R X.K I y vy) (k : ∀ I' H' v', Ex I H I' H' → R X.K I' d v' → Q v' H') : rIx X.K v vy H Q := by
  unfold itemOf at e
  cases q : ev[i]? with
  | none => rw [q] at e; cases e
  | some o =>
    rw [q] at e
    cases o with
    | none => cases e
    | some s =>
      obtain ⟨w, h1, h2⟩ := rel.slot i s q
      rw [hv] at h1
      cases h1
      have cell : ∀ xs p, v = .ref p → CellAt X.K I H p (.lst xs) → dIx (.lst xs) y = some d → rIx X.K v vy H Q := fun xs p hv h4 e => by
        subst hv
        obtain ⟨vs, e4, rs⟩ := h4
        cases y with
        | int j =>
          obtain ⟨z, h5, h6⟩ := rs.atI (show L2.atI xs j = some d from e)
          exact .inl ⟨p, vs, j, z, rfl, R_int.mp ry, SqL.of e4, h5, k I H z (Ex.refl rel.sub) h6⟩
        | _ => cases e
      cases s with
      | d d0 => exact ix_ok I H d0 y v vy d Q rel.sub e h2 ry k
      | own c =>
        obtain ⟨p, hv, h3, h4⟩ := h2
        cases c with
        | lst xs => exact cell xs p hv h4 e
        | ins => cases e
      | bor c =>
        obtain ⟨p, hv, h3, h4⟩ := h2
        cases c with
        | lst xs => exact cell xs p hv h4 e
        | ins => cases e
theorem Post.optv {α : Type} {K : PySem.W.Frag} {W : WX} {f : Ev → Option α} {σ : St} {ev : Ev} {I H : Hp} {G : α → Ev → Hp → Hp → Prop} (h : Post K W (fun ev => (f ev).map fun r => .ok r ev) σ ev I H G) : ∃ a, f ev = some a ∧ ∀ I' H', Step σ ev I H σ ev I' H' → Rel K σ ev I' H' → G a ev I' H' := by
  unfold Post at h
  dsimp only at h
  cases e : f ev with
  | none => rw [e] at h; exact h.elim
  | some a => rw [e] at h; exact ⟨a, rfl, h⟩
theorem se_ixN (i : Nat) {cb : M D} (hN : X.N[i]? = some x) (hv : Vis X.env.scope x) (hb : SE X W b cb) (hs : PlainIx b := by exact fun _ _ => rfl) (hd : (x == ("__debug__" : Str)) = false := by decide +kernel) (hcd : (x == ("__classdict__" : Str)) = false := by decide +kernel) :
    SE X W (.Subscript (.Name x p) b pos) (mIxN i cb) := by
  obtain ⟨tb, pb, sb⟩ := hb
  refine ⟨_, pe_ix ix_seq (pe_var hN hv hd hcd) pb hs, fun σ ev I H Q rel h => ?_⟩
  obtain ⟨⟨v, hσ⟩, h1⟩ := h.nm rel
  refine ⟨v, hσ, sb σ ev I H _ rel ((Post.bind h1).imp fun y ev1 I1 H1 s1 r1 h2 vy ry => ?_)⟩
  obtain ⟨d, e, k⟩ := Post.optv h2
  exact itemOf_ok r1 e hσ ry fun I' H' v' ex rv => k I' H' ex.step (r1.ex ex) v' rv
/-- len and the like of what a name holds: a scalar comes back -/
def isSc : D → Bool
  | .non => true
  | .bl _ => true
  | .int _ => true
  | .str _ => true
  | _ => false
theorem sc_any {K : PySem.W.Frag} {I J : Hp} {d : D} {v : V} (h : isSc d = true) (r : R K I d v) : R K J d v := by
  cases d with
  | non => exact R_non.mpr (R_non.mp r)
  | bl => exact R_bl.mpr (R_bl.mp r)
  | int => exact R_int.mpr (R_int.mp r)
  | str => exact R_str.mpr (R_str.mp r)
  | _ => cases h
def mBN (g : List D → Option D) (i : Nat) : M D := fun ev => match nmD ev i with
  | some d => (match g [d] with
    | some r => if isSc r then some (.ok r ev) else none
    | none => none)
  | none => none
theorem se_callBN (i : Nat) {y : Str} {py : Pos} {id : String} {g : List D → Option D} {r : List V → Hp → VK → Prop} (hc : CallR X (.builtin id) r) (hq : ∀ (I H : Hp) (ds : List D) (vs : List V) (d : D) (Q : VK), Le I H → g ds = some d → Rs X.K I ds vs → (∀ v, R X.K I d v → Q v H) → r vs H Q)
    (hm : X.mg x = none) (hg : Gl X x) (hv : bootBuiltins x = some (.builtin id)) (hN : X.N[i]? = some y) (hy : Vis X.env.scope y) (hn : x ≠ "__name__" := by decide +kernel) (hdb : (x == ("__debug__" : Str)) = false := by decide +kernel)
    (hd : (y == ("__debug__" : Str)) = false := by decide +kernel) (hcd : (y == ("__classdict__" : Str)) = false := by decide +kernel)
    (he : starEach [.Name y py] X.env = (false, eval (.Name y py) X.env) :: starEach [] X.env := by rfl) (hpl : (backTo pos (starEach [] X.env)).any (·.1) = false := by rfl) : SE X W (.Call (.Name x p) [.Name y py] [] pos) (mBN g i) := by
  refine ⟨_, pe_callB hc hg hm hv (pa_cons (pe_var hN hy hd hcd) pa_nil he) hn hdb he hpl, fun σ ev I H Q rel h => ?_⟩
  unfold Post mBN at h
  cases q : nmD ev i with
  | none => rw [q] at h; exact h.elim
  | some d =>
    rw [q] at h
    have q' := q
    unfold nmD at q'
    cases e : ev[i]? with
    | none => rw [e] at q'; cases q'
    | some o =>
      cases o with
      | none => rw [e] at q'; cases q'
      | some s =>
        obtain ⟨v, hσ⟩ := peek_set rel e
        obtain ⟨J, j1, j2, j3⟩ := peek rel q hσ
        refine ⟨v, hσ, ?_⟩
        cases eg : g [d] with
        | none => simp only [eg] at h
        | some r' =>
          simp only [eg] at h
          cases hs : isSc r' with
          | false => rw [hs] at h; exact h.elim
          | true =>
            rw [hs] at h
            exact hq J H [d] [v] r' Q j2 eg (Rs_cons.mpr ⟨v, [], rfl, j3, Rs_nil.mpr rfl⟩) fun v' rv => h I H (Step.refl ..) rel v' (sc_any hs rv)
theorem lenR_ok {K : PySem.W.Frag} : ∀ (I H : Hp) (ds : List D) (vs : List V) (d : D) (Q : VK), Le I H → gLen ds = some d → Rs K I ds vs → (∀ v, R K I d v → Q v H) → rLen K vs H Q := fun I H ds vs d Q l e rs k => by
  unfold gLen at e
  split at e
  · obtain ⟨n, e1, rfl⟩ := Option.map_eq_some_iff.mp e
    obtain ⟨v, rfl, h⟩ := rs.one
    exact ⟨v, n, rfl, lenD_ok l e1 h, k _ (R_int.mpr rfl)⟩
  · cases e
def setAt (i : Nat) (y x : D) (ev : Ev) : Option Ev := match ev[i]?, y with
  | some (some (.own (.lst xs))), .int k => (ixN xs.length k).map fun j => ev.set i (some (.own (.lst (xs.set j x))))
  | some (some (.bor (.lst xs))), .int k => (ixN xs.length k).map fun j => ev.set i (some (.bor (.lst (xs.set j x))))
  | _, _ => none
/-- a cell's content changes -/
theorem write_cell {K : PySem.W.Frag} {σ : St} {ev : Ev} {I H : Hp} {i : Nat} {s : SV} {c : Cell} {p : Addr} {o : HO} (rel : Rel K σ ev I H) (e : ev[i]? = some (some s)) (hs : s.isCell = true) (hv : σ[i]? = some (some (.ref p))) (hI : I p = none) (h0 : H p ≠ none) (hc : CellAt K I (upd H p o) p c) :
    Step σ ev I H σ (ev.set i (some (kindTo s c))) I (upd H p o) ∧ Rel K σ (ev.set i (some (kindTo s c))) I (upd H p o) := by
  have hi : i < ev.length := (List.getElem?_eq_some_iff.mp e).1
  have ke : KE ev (ev.set i (some (kindTo s c))) := ⟨by simp, fun j => by
    by_cases h : i = j
    · subst h
      exact .inl ⟨s, c, e, hs, List.getElem?_set_self hi⟩
    · exact .inr (List.getElem?_set_ne h)⟩
  have ownp : Own σ ev p := ⟨i, s, e, hs, hv⟩
  have keep : ∀ a u, H a = some u → a ≠ p → upd H p o a = some u := fun a u h n => by rw [upd_ne n]; exact h
  refine ⟨⟨fun a u h n => keep a u h fun z => n (by rw [z]; exact ownp), fun a h => ?_, Le.refl _, fun _ _ h _ => h, fun a w => .inl (ke.own w), fun a ⟨j, t, e', ho, hv'⟩ => ?_, fun j c' e' => ⟨ke.bor e', rfl⟩⟩, ⟨by rw [ke.1]; exact rel.len, fun a u q => ?_, fun j t e' => ?_, fun j k t t' a e1 e2 c1 c2 g1 g2 => ?_⟩⟩
  · by_cases z : a = p
    · rw [z, upd_same]; exact fun z => by cases z
    · rw [upd_ne z]; exact h
  · obtain ⟨t', e2, c2, o2⟩ := ke.cell e' (by cases t <;> first | rfl | (cases ho))
    exact .inl ⟨j, t', e2, o2.trans ho, hv'⟩
  · have hne : a ≠ p := fun z => by rw [z, hI] at q; cases q
    rw [upd_ne hne]
    exact rel.sub a u q
  · by_cases h : i = j
    · subst h
      rw [List.getElem?_set_self hi] at e'
      cases e'
      refine ⟨_, hv, ?_⟩
      cases s with
      | d d => cases hs
      | own c' => exact ⟨p, rfl, hI, hc⟩
      | bor c' => exact ⟨p, rfl, hI, hc⟩
    · rw [List.getElem?_set_ne h] at e'
      obtain ⟨v, h1, h2⟩ := rel.slot j t e'
      refine ⟨v, h1, ?_⟩
      have cell : ∀ c' q, t.isCell = true → v = .ref q → CellAt K I H q c' → CellAt K I (upd H p o) q c' := fun c' q ht hvq h4 => by
        refine h4.mono (Le.refl _) fun u hu => keep q u hu fun z => h ?_
        subst z
        exact rel.sep i j s t q e e' hs ht hv (by rw [h1, hvq])
      cases t with
      | d d => exact h2
      | own c' => obtain ⟨q, hvq, h3, h4⟩ := h2; exact ⟨q, hvq, h3, cell c' q rfl hvq h4⟩
      | bor c' => obtain ⟨q, hvq, h3, h4⟩ := h2; exact ⟨q, hvq, h3, cell c' q rfl hvq h4⟩
  · obtain ⟨t1, f1, d1, _⟩ := ke.cell e1 c1
    obtain ⟨t2, f2, d2, _⟩ := ke.cell e2 c2
    exact rel.sep j k t1 t2 a f1 f2 d1 d2 g1 g2
def sSetAt (i : Nat) (ca cb : M D) : MS := sE ca fun x => sE (mNm i cb) fun y => sOpt (setAt i y x)
theorem ss_setAt (i : Nat) {ca cb : M D} {e : Expr} {ps : Pos} (hN : X.N[i]? = some x) (hv : Vis X.env.scope x) (ha : SE X W e ca) (hb : SE X W b cb)
    (hp : ∀ {to ti : TE}, PE X (.Name x p) to → PE X b ti → PG X (.Subscript (.Name x p) b ps) (gSub to ti rSetL) := by exact fun ho hi => pg_sub ho hi set_list) (hd : (x == ("__debug__" : Str)) = false := by decide +kernel) (hcd : (x == ("__classdict__" : Str)) = false := by decide +kernel)
    (hs : swapsWithSole [.Subscript (.Name x p) b ps] e pos.line X.env = pure false := by rfl) (hw : swappedStores [.Subscript (.Name x p) b ps] e X.env = pure none := by rfl) (h1 : (assignEach [.Subscript (.Name x p) b ps] X.env).map (·.2) = [assign (.Subscript (.Name x p) b ps) X.env] := by rfl) :
    SS X W (.Assign [.Subscript (.Name x p) b ps] e pos) (sSetAt i ca cb) := by
  obtain ⟨ta, pa, sa⟩ := ha
  obtain ⟨tb, pb, sb⟩ := hb
  refine ⟨_, ps_asg pa (hp (pe_var hN hv hd hcd) pb) hs hw h1, fun σ ev I H En rel h => ?_⟩
  refine sa σ ev I H _ rel (h.expr.imp fun d ev1 I1 H1 s1 r1 h1 v rv => ?_)
  obtain ⟨⟨vi, hσ⟩, h2⟩ := h1.expr.nm r1
  refine ⟨vi, hσ, sb σ ev1 I1 H1 _ r1 (h2.imp fun y ev2 I2 H2 s2 r2 h3 vy ry => ?_)⟩
  obtain ⟨ev3, e3, k⟩ := h3.opt
  unfold setAt at e3
  have go : ∀ (s : SV) (xs : List D) (j : Int), ev2[i]? = some (some s) → (s = .own (.lst xs) ∨ s = .bor (.lst xs)) → y = .int j → (∃ q, ixN xs.length j = some q ∧ ev3 = ev2.set i (some (kindTo s (.lst (xs.set q d))))) → rSetL vi vy v H2 fun H3 => En.nx σ H3 := fun s xs j e4 e5 e6 e7 => by
    subst e6
    have hcell : s.isCell = true := by rcases e5 with rfl | rfl <;> rfl
    obtain ⟨p, c, g1, g2, g3, g4⟩ := r2.cell e4 hcell
    have hcl : c = .lst xs := by rcases e5 with rfl | rfl <;> rcases g4 with g4 | g4 <;> first | (cases g4; rfl) | cases g4
    subst hcl
    obtain ⟨vs, e8, rs⟩ := g3
    rw [hσ] at g1
    cases g1
    obtain ⟨q, e9, rfl⟩ := e7
    refine ⟨p, vs, j, q, rfl, R_int.mp ry, e8, by rw [← rs.length]; exact e9, ?_⟩
    obtain ⟨s3, r3⟩ := write_cell (c := .lst (xs.set q d)) (o := .lst (vs.set q v)) r2 e4 hcell hσ g2 (by rw [e8]; exact fun z => by cases z) ⟨_, upd_same, rs.set (R.mono s2.le _ _ rv) q⟩
    exact k σ I2 _ s3 r3
  split at e3
  · rename_i xs j e4
    obtain ⟨q, e5, rfl⟩ := Option.map_eq_some_iff.mp e3
    exact go _ xs j e4 (.inl rfl) rfl ⟨q, e5, rfl⟩
  · rename_i xs j e4
    obtain ⟨q, e5, rfl⟩ := Option.map_eq_some_iff.mp e3
    exact go _ xs j e4 (.inr rfl) rfl ⟨q, e5, rfl⟩
  · cases e3
end
end FL
set_option Elab.async false
set_option linter.all false
set_option maxRecDepth 100000
namespace FL
open PySem
open PySem.Spec
open L2
mutual
/-- a value of the written part is this data -/
def relDK (K : PySem.W.Frag) : D → Value → Bool
  | .non, .none => true
  | .bl b, .bool c => b == c
  | .int i, .int j _ => decide (i = j)
  | .str x, .str y _ => decide (x = y)
  | .ty n, .type m => decide (n = m)
  | .cls C, .ref a => decide (a = cad K C)
  | .tup xs, .ref a => (match K.lookup a with
    | some ⟨.type c, _, .seq its _, _⟩ => decide (c = "tuple") && (decide (its.size ≤ sizeLine) && relDKs K xs its.toList)
    | _ => false)
  | _, _ => false
def relDKs (K : PySem.W.Frag) : List D → List Value → Bool
  | [], [] => true
  | x :: xs, v :: vs => relDK K x v && relDKs K xs vs
  | _, _ => false
end
theorem and_tt {a b : Bool} (h : (a && b) = true) : a = true ∧ b = true := Bool.and_eq_true_iff.mp h
mutual
theorem relDK_ok {K : PySem.W.Frag} {I : Hp} : ∀ (d : D) (u : Value), relDK K d u = true → ∃ v, RelV v u ∧ R K I d v
  | .non, u, h => by
    cases u with
    | none => exact ⟨.non, rfl, R_non.mpr rfl⟩
    | _ => unfold relDK at h; cases h
  | .bl b, u, h => by
    cases u with
    | bool c =>
      unfold relDK at h
      have e : b = c := eq_of_beq h
      subst e
      exact ⟨.bl b, rfl, R_bl.mpr rfl⟩
    | _ => unfold relDK at h; cases h
  | .int i, u, h => by
    cases u with
    | int j t =>
      unfold relDK at h
      have e : i = j := of_decide_eq_true h
      subst e
      exact ⟨.int i, ⟨t, rfl⟩, R_int.mpr rfl⟩
    | _ => unfold relDK at h; cases h
  | .str x, u, h => by
    cases u with
    | str j t =>
      unfold relDK at h
      have e : x = j := of_decide_eq_true h
      subst e
      exact ⟨.str x, ⟨t, rfl⟩, R_str.mpr rfl⟩
    | _ => unfold relDK at h; cases h
  | .ty n, u, h => by
    cases u with
    | type m =>
      unfold relDK at h
      have e : n = m := of_decide_eq_true h
      subst e
      exact ⟨.ty n, rfl, R_ty.mpr rfl⟩
    | _ => unfold relDK at h; cases h
  | .cls C, u, h => by
    cases u with
    | ref a =>
      unfold relDK at h
      have e : a = cad K C := of_decide_eq_true h
      subst e
      exact ⟨.ref _, rfl, R_cls.mpr rfl⟩
    | _ => unfold relDK at h; cases h
  | .tup xs, u, h => by
    cases u with
    | ref a =>
      unfold relDK at h
      cases q : K.lookup a with
      | none => rw [q] at h; cases h
      | some o =>
        obtain ⟨oc, od, dt, osl⟩ := o
        rw [q] at h
        cases oc with
        | type c =>
          cases dt with
          | seq its n =>
            obtain ⟨h1, h2⟩ := and_tt h
            obtain ⟨h3, h4⟩ := and_tt h2
            obtain ⟨vs, rv, rs⟩ := relDKs_ok (I := I) xs its.toList h4
            have e1 : c = "tuple" := of_decide_eq_true h1
            subst e1
            exact ⟨.ref a, rfl, R_tup.mpr ⟨a, vs, rfl, .inr ⟨_, its, n, q, rfl, rfl, of_decide_eq_true h3, rv⟩, rs⟩⟩
          | _ => cases h
        | _ => cases h
    | _ => unfold relDK at h; cases h
  | .lst xs, u, h => by unfold relDK at h; cases h
  | .ins _ _ _, u, h => by unfold relDK at h; cases h
theorem relDKs_ok {K : PySem.W.Frag} {I : Hp} : ∀ (ds : List D) (us : List Value), relDKs K ds us = true → ∃ vs, Vals vs us ∧ Rs K I ds vs
  | [], us, h => by
    cases us with
    | nil => exact ⟨[], .nil, Rs_nil.mpr rfl⟩
    | cons => unfold relDKs at h; cases h
  | x :: xs, us, h => by
    cases us with
    | nil => unfold relDKs at h; cases h
    | cons u us =>
      unfold relDKs at h
      obtain ⟨h1, h2⟩ := and_tt h
      obtain ⟨v, r1, r2⟩ := relDK_ok (I := I) x u h1
      obtain ⟨vs, r3, r4⟩ := relDKs_ok (I := I) xs us h2
      exact ⟨v :: vs, .cons r1 r3, Rs_cons.mpr ⟨v, vs, rfl, r2, r4⟩⟩
end
/-- a fact of ours -/
inductive Fx where
  /-- a name of the module: this data -/
  | con (x : String) (d : D)
  /-- isinstance's answer -/
  | kit (t u : TN) (b : Bool)
  /-- an own class whose instances isinstance is asked of -/
  | insT (C : String)
  /-- a class's constant -/
  | ccon (C f : String) (d : D)
  /-- what the text of ours asks besides -/
  | raw (q : PySem.W.Frag → Bool)
def Fx.ok (K : PySem.W.Frag) : Fx → Bool
  | .con x d => (match PySem.W.nsIn K mainGlobals (Str.ofString x) with
    | some (some u) => relDK K d u
    | _ => false)
  | .kit t u b => decide (PySem.W.kitOne K (tnV K t) (tnV K u) = some b)
  | .insT C => (He.Fa.cls (Str.ofString C)).ok K && (He.eqO (PySem.W.findIn K (.ref (cad K C)) "__class__") (some (some (.builtin "object.__class__"))) && (He.eqO (PySem.W.specialIn K (.builtin "object.__class__") "__get__") (some (some (.builtin "getset_descriptor.__get__"))) &&
      (decide (PySem.W.takesIn K (.builtin "object.__class__") = some true) && decide (PySem.W.mroIn K (cad K C) (.type "object") = some true))))
  | .ccon C f d => (match PySem.W.findIn K (.ref (cad K C)) (Str.ofString f) with
    | some (some u) => relDK K d u && (He.eqO (PySem.W.specialIn K u "__get__") (some none) && !PySem.W.copiedNames.contains (Str.ofString f))
    | _ => false)
  | .raw q => q K
abbrev AlF : Type := He.AlD × Bool
/-- the addresses that are looked at -/
def asF (g : Addr → Option Obj) (n : Nat) : List Addr := He.asD g n ++ [cStatics]
def obsF (n : Nat) (fa : List He.Fa) (fn : List He.DefD) (fx : List Fx) (g : Addr → Option Obj) : AlF := (He.obsD fa fn (He.frG g (asF g n)), fx.all fun f => f.ok (He.frG g (asF g n)))
structure SaysF (fa : List He.Fa) (fn : List He.DefD) (fx : List Fx) (K : PySem.W.Frag) : Prop where
  d : He.SaysD fa fn K
  x : (fx.all fun f => f.ok K) = true
def hookF (n : Nat) (fa : List He.Fa) (fn : List He.DefD) (fx : List Fx) : PySem.W.Hook where
  α := AlF
  obs := fun s => obsF n fa fn fx s.heap.get?
  val := fun _ => (He.valD fn, true)
  says := fun _ h => ∃ K : PySem.W.Frag, K.In h ∧ SaysF fa fn fx K
  of := fun _ _ e => ⟨_, He.frG_in, ⟨congrArg (fun z : AlF => z.1) e, congrArg (fun z : AlF => z.2) e⟩⟩
  keeps := fun _ _ _ ⟨K, hK, c⟩ k => ⟨K, PySem.W.Frag.In.keeps hK k, c⟩
theorem obsF_eq {n : Nat} {fa : List He.Fa} {fn : List He.DefD} {fx : List Fx} {g : Addr → Option Obj} {s : Shared} (h : ∀ a, g a = s.heap.get? a) : obsF n fa fn fx g = (hookF n fa fn fx).obs s := by
  have e : g = s.heap.get? := funext h
  rw [e]
  rfl
section
variable {fa : List He.Fa} {fn : List He.DefD} {fx : List Fx} {K : PySem.W.Frag} {h : Heap} {mg : Str → Option Value}
theorem SaysF.get (c : SaysF fa fn fx K) (i : Nat) {f : Fx} (e : fx[i]? = some f := by rfl) : f.ok K = true := List.all_eq_true.mp c.x f (List.mem_of_getElem? e)
theorem glb_con (X : K.In h) (G : h.Ns mainGlobals mg) {x : String} {d : D} (c : (Fx.con x d).ok K = true) : Glb K mg (Str.ofString x) d := by
  have c2 : (match PySem.W.nsIn K mainGlobals (Str.ofString x) with
    | some (some u) => relDK K d u
    | _ => false) = true := c
  cases e : PySem.W.nsIn K mainGlobals (Str.ofString x) with
  | none => rw [e] at c2; cases c2
  | some o =>
    rw [e] at c2
    cases o with
    | none => cases c2
    | some u =>
      obtain ⟨v, r1, r2⟩ := relDK_ok (I := fun _ => none) d u c2
      exact ⟨u, v, PySem.W.mg_of X G e, r1, r2⟩
theorem kit_ok {t u : TN} {b : Bool} (c : (Fx.kit t u b).ok K = true) : PySem.W.kitOne K (tnV K t) (tnV K u) = some b := of_decide_eq_true c
theorem insT_ok {C : String} (c : (Fx.insT C).ok K = true) : InsTy K (cad K C) := by
  obtain ⟨h1, h2⟩ := and_tt c
  obtain ⟨h3, h4⟩ := and_tt h2
  obtain ⟨h5, h6⟩ := and_tt h4
  obtain ⟨h7, h8⟩ := and_tt h6
  exact ⟨He.cls_ok h1, He.eqO_ok h3, He.eqO_ok h5, of_decide_eq_true h7, of_decide_eq_true h8⟩
theorem ccon_ok {C f : String} {d : D} (c : (Fx.ccon C f d).ok K = true) : ∃ u v, Con K (cad K C) (Str.ofString f) v u ∧ R K (fun _ => none) d v := by
  have c2 : (match PySem.W.findIn K (.ref (cad K C)) (Str.ofString f) with
    | some (some u) => relDK K d u && (He.eqO (PySem.W.specialIn K u "__get__") (some none) && !PySem.W.copiedNames.contains (Str.ofString f))
    | _ => false) = true := c
  cases e : PySem.W.findIn K (.ref (cad K C)) (Str.ofString f) with
  | none => rw [e] at c2; cases c2
  | some o =>
    rw [e] at c2
    cases o with
    | none => cases c2
    | some u =>
      obtain ⟨h1, h2⟩ := and_tt c2
      obtain ⟨h3, h4⟩ := and_tt h2
      obtain ⟨v, r1, r2⟩ := relDK_ok (I := fun _ => none) d u h1
      exact ⟨u, v, ⟨e, r1, He.eqO_ok h3, by simpa using h4⟩, r2⟩
end
/-- a scope from its names: 0 local, 1 cell, 2 free, 3 a name of the module's -/
def kindNo : Nat → NameKind
  | 0 => .local
  | 1 => .cell
  | 2 => .free
  | _ => .globalImplicit
def mkSc (l : List (String × Nat)) : Scope := { kind := .function, names := l.map fun p => (Str.ofString p.1, kindNo p.2), isGenerator := false, isCoroutine := false }
theorem dfn_mk {P : Program} {w : World} {K : PySem.W.Frag} {mg : Str → Option Value} {base : Heap} {k : Nat} {qual : Str} {params : Arguments} {body : List Stmt} {scope : Scope} {fd : FuncData} {x : String} {N ps : List Str} {c : MS} {f : Addr}
    (F : FunD K (Str.ofString x) qual params body scope [] [] f fd) (S : FnScope N ps scope) (hm : mg (Str.ofString x) = some (.ref f))
    (hbn : ∀ (kV doc pm : Value) (an : Option Addr) (cdv ct : Value) (us : List Value), us.length = ps.length → bindArgs (PySem.W.fnOf (Str.ofString x) qual params body scope .none kV doc pm an cdv ct) ⟨us, []⟩ = pure (ps.zip us))
    (hb : ∀ (cdv : Value) (A : Around) (outer : List Env) (s : Shared) (H : Hp) (E : XK), Room k (A.deeper (PyProof.Rows.envOfC qual scope s.heap.objs.size f cdv)) → SB (cxOf (L2.CX P w) P w K mg base N qual scope f cdv A outer s H E) (wDef E) body c) :
    Dfn P w K mg base x (k + 1) (mkF ps.length N.length c) [] :=
  ⟨f, fd, ps, [], [], fn_ok F S hb, hm, F.kp, F.bindsN hbn, .nil, Rs_nil.mpr rfl⟩
theorem dfn_zero {P : Program} {w : World} {K : PySem.W.Frag} {mg : Str → Option Value} {base : Heap} {k : Nat} {qual : Str} {params : Arguments} {body : List Stmt} {scope : Scope} {fd : FuncData} {x : String} {N ps : List Str} {f : Addr}
    (F : FunD K (Str.ofString x) qual params body scope [] [] f fd) (S : FnScope N ps scope) (hm : mg (Str.ofString x) = some (.ref f))
    (hbn : ∀ (kV doc pm : Value) (an : Option Addr) (cdv ct : Value) (us : List Value), us.length = ps.length → bindArgs (PySem.W.fnOf (Str.ofString x) qual params body scope .none kV doc pm an cdv ct) ⟨us, []⟩ = pure (ps.zip us)) :
    Dfn P w K mg base x k (fun _ => none) [] :=
  ⟨f, fd, ps, [], [], ⟨fun vs H Q E h => by obtain ⟨_, _, _, _, h⟩ := h; exact h.elim, fun A outer s H args us vs Q E hr he hb hv h => by obtain ⟨_, _, _, _, h⟩ := h; exact h.elim⟩, hm, F.kp, F.bindsN hbn, .nil, Rs_nil.mpr rfl⟩
end FL
set_option Elab.async false
set_option linter.all false
set_option maxRecDepth 100000
namespace FL
open PySem
open PySem.Spec
open L2
theorem wipe_get (σ : St) : ∀ (vs : List Nat) (j : Nat), (wipe σ vs)[j]? = if j ∈ vs then (if j < σ.length then some none else none) else σ[j]?
  | [], j => by simp [wipe]
  | v :: vs, j => by
    unfold wipe
    by_cases h : v = j
    · subst h
      rw [if_pos List.mem_cons_self]
      by_cases hl : v < σ.length
      · rw [if_pos hl, List.getElem?_set_self (by rw [wipe_length]; exact hl)]
      · rw [if_neg hl, List.getElem?_eq_none (by rw [List.length_set, wipe_length]; omega)]
    · rw [List.getElem?_set_ne h, wipe_get σ vs j]
      have : j ∈ v :: vs ↔ j ∈ vs := by simp [Ne.symm h]
      simp only [this]
theorem wipe_set {σ : St} {i : Nat} {x : Option V} {vs : List Nat} (h : i ∈ vs) : wipe (σ.set i x) vs = wipe σ vs := by
  apply List.ext_getElem?
  intro j
  rw [wipe_get, wipe_get, List.length_set]
  by_cases hj : j ∈ vs
  · rw [if_pos hj, if_pos hj]
  · rw [if_neg hj, if_neg hj, List.getElem?_set_ne (fun z => hj (by rw [← z]; exact h))]
theorem wipe_wipe {σ : St} {vs : List Nat} : wipe (wipe σ vs) vs = wipe σ vs := by
  apply List.ext_getElem?
  intro j
  rw [wipe_get, wipe_get, wipe_length]
  by_cases hj : j ∈ vs
  · rw [if_pos hj, if_pos hj]
  · rw [if_neg hj, if_neg hj]
def SG (X : Cx) (tgt : Expr) (gs : D → Ev → Option Ev) (ts : List Nat) : Prop := ∃ g, PG X tgt g ∧ ∀ (σ : St) (ev ev' : Ev) (I H : Hp) (v : V) (d : D) (Q : St → Hp → Prop), Rel X.K σ ev I H → R X.K I d v → gs d ev = some ev' →
  (∀ σ', Step σ ev I H σ' ev' I H → Rel X.K σ' ev' I H → (∀ vs : List Nat, (∀ t ∈ ts, t ∈ vs) → wipe σ' vs = wipe σ vs) → Q σ' H) → g v σ H Q
def SGs (X : Cx) (tgts : List Expr) (gs : List D → Ev → Option Ev) (ts : List Nat) : Prop := ∃ g, PGs X tgts g ∧ ∀ (σ : St) (ev ev' : Ev) (I H : Hp) (vs : List V) (ds : List D) (Q : St → Hp → Prop), Rel X.K σ ev I H → Rs X.K I ds vs → gs ds ev = some ev' →
  (∀ σ', Step σ ev I H σ' ev' I H → Rel X.K σ' ev' I H → (∀ us : List Nat, (∀ t ∈ ts, t ∈ us) → wipe σ' us = wipe σ us) → Q σ' H) → g vs σ H Q
section
variable {X : Cx} {W : WX} {e : Expr} {es : List Expr} {pos p : Pos} {x : Str}
theorem sg_name (i : Nat) (hN : X.N.Nodup) (hi : X.N[i]? = some x) (hx : Loc X.env.scope x) (hf : X.fn x = true ∨ X.env.scope.names.lookup x = some .local) : SG X (.Name x p) (setD i) [i] :=
  ⟨_, pg_name hN hi hx hf, fun σ ev ev' I H v d Q rel rv e k => by
    obtain ⟨s, r⟩ := set_data rel e rv
    exact k _ s r fun vs hv => wipe_set (hv i (List.mem_singleton.mpr rfl))⟩
def gsNil : List D → Ev → Option Ev
  | [], ev => some ev
  | _, _ => none
def gsCons (g : D → Ev → Option Ev) (gs : List D → Ev → Option Ev) : List D → Ev → Option Ev
  | d :: ds, ev => match g d ev with
    | some ev1 => gs ds ev1
    | none => none
  | _, _ => none
theorem sgs_nil : SGs X [] gsNil [] := ⟨_, pgs_nil, fun σ ev ev' I H vs ds Q rel rs e k => by
  cases ds with
  | nil =>
    cases e
    exact ⟨Rs_nil.mp rs, k σ (Step.refl ..) rel fun _ _ => rfl⟩
  | cons => cases e⟩
theorem sgs_cons {g : D → Ev → Option Ev} {gs : List D → Ev → Option Ev} {t u : List Nat} (h1 : SG X e g t) (h2 : SGs X es gs u) (hs : (assignEach (e :: es) X.env).map (·.2) = assign e X.env :: (assignEach es X.env).map (·.2) := by rfl) :
    SGs X (e :: es) (gsCons g gs) (t ++ u) := by
  obtain ⟨tg, pg, sg⟩ := h1
  obtain ⟨tr, pr, sr⟩ := h2
  refine ⟨_, pgs_cons pg pr hs, fun σ ev ev' I H vs ds Q rel rs e k => ?_⟩
  cases ds with
  | nil => cases e
  | cons d ds =>
    obtain ⟨v, r, rfl, h3, h4⟩ := Rs_cons.mp rs
    simp only [gsCons] at e
    cases q : g d ev with
    | none => rw [q] at e; cases e
    | some ev1 =>
      rw [q] at e
      refine ⟨v, r, rfl, sg σ ev ev1 I H v d _ rel h3 q fun σ1 s1 r1 w1 => ?_⟩
      refine sr σ1 ev1 ev' I H r ds Q r1 h4 e fun σ2 s2 r2 w2 => k σ2 (s1.trans s2) r2 fun us hu => ?_
      rw [w2 us fun t ht => hu t (List.mem_append_right _ ht), w1 us fun t ht => hu t (List.mem_append_left _ ht)]
def gsTup (n : Nat) (gs : List D → Ev → Option Ev) : D → Ev → Option Ev
  | .tup ds, ev => if ds.length = n then gs ds ev else none
  | _, _ => none
theorem sg_tup {gs : List D → Ev → Option Ev} {ts : List Nat} {k n : Nat} (hc : X.calm = true) (h : SGs X es gs ts) (hn : (assignEach es X.env).length = n) (hst : (assignEach es X.env).findIdx? (·.1) = none := by rfl) : SG X (.Tuple es k pos) (gsTup n gs) ts := by
  obtain ⟨t, p, s⟩ := h
  refine ⟨_, pg_tup hc p hn hst, fun σ ev ev' I H v d Q rel rv e k => ?_⟩
  cases d with
  | tup ds =>
    obtain ⟨a, vs, rfl, h1, h2⟩ := R_tup.mp rv
    simp only [gsTup] at e
    by_cases hl : ds.length = n
    · rw [if_pos hl] at e
      exact ⟨a, vs, rfl, rel.sub.sqT h1, by rw [← h2.length]; exact hl, s σ ev ev' I H vs ds Q rel h2 e k⟩
    · rw [if_neg hl] at e
      cases e
  | _ => cases e
/-- a target that is no single name -/
def sAsg (gs : D → Ev → Option Ev) (ca : M D) : MS := sE ca fun d => sOpt (gs d)
theorem ss_asg {tgt : Expr} {gs : D → Ev → Option Ev} {ts : List Nat} {ca : M D} (hg : SG X tgt gs ts) (ha : SE X W e ca)
    (hs : swapsWithSole [tgt] e pos.line X.env = pure false := by rfl) (hw : swappedStores [tgt] e X.env = pure none := by rfl) (h1 : (assignEach [tgt] X.env).map (·.2) = [assign tgt X.env] := by rfl) : SS X W (.Assign [tgt] e pos) (sAsg gs ca) := by
  obtain ⟨g, pg, sg⟩ := hg
  obtain ⟨ta, pa, sa⟩ := ha
  refine ⟨_, ps_asg pa pg hs hw h1, fun σ ev I H D rel h => ?_⟩
  refine sa σ ev I H _ rel (h.expr.imp fun d ev1 I1 H1 s1 r1 h2 v rv => ?_)
  obtain ⟨ev2, e, k⟩ := h2.opt
  exact sg σ ev1 ev2 I1 H1 v d _ r1 rv e fun σ' s' r' _ => k σ' I1 H1 s' r'
/-- a, b = x, y -/
def sPar (i j : Nat) (ca : M (List D)) : MS := sE ca fun ds => sOpt fun ev => match ds with
  | [d1, d2] => (setD i d1 ev).bind (setD j d2)
  | _ => none
theorem ss_par {i j : Nat} {x y : Str} {a b : Expr} {ca : M (List D)} {px py pt : Pos} {kt k2 pt2} (hc : X.calm = true) (hN : X.N.Nodup) (hi : X.N[i]? = some x) (hj : X.N[j]? = some y) (hij : i ≠ j)
    (hx : X.env.scope.names.lookup x = some .local) (hy : X.env.scope.names.lookup y = some .local) (ha : SA X W [a, b] ca)
    (hw : swappedStores [.Tuple [.Name x px, .Name y py] kt pt] (.Tuple [a, b] k2 pt2) X.env = pure (some [x, y]))
    (hs : swapsWithSole [.Tuple [.Name x px, .Name y py] kt pt] (.Tuple [a, b] k2 pt2) pos.line X.env = pure false := by rfl) : SS X W (.Assign [.Tuple [.Name x px, .Name y py] kt pt] (.Tuple [a, b] k2 pt2) pos) (sPar i j ca) := by
  obtain ⟨ta, pa, sa⟩ := ha
  refine ⟨_, ps_par hc hN hi hj hij hx hy pa hw hs, fun σ ev I H D rel h => ?_⟩
  refine sa σ ev I H _ rel (h.expr.imp fun ds ev1 I1 H1 s1 r1 h2 vs rs => ?_)
  obtain ⟨ev3, e, k⟩ := h2.opt
  split at e
  · rename_i d1 d2
    obtain ⟨v, w, rfl, q1, q2⟩ := rs.two
    obtain ⟨ev2, e1, e2⟩ := Option.bind_eq_some_iff.mp e
    obtain ⟨s2, r2⟩ := set_data r1 e1 q1
    obtain ⟨s3, r3⟩ := set_data r2 e2 q2
    exact ⟨v, w, rfl, k _ _ _ (s2.trans s3) r3⟩
  · cases e
def ItOk (K : PySem.W.Frag) (J : It) (xs : List D) (I : Hp) : Prop := ∀ (I' H' : Hp), Le I I' → Le I' H' →
  (∀ (i : Nat) (d : D), xs[i]? = some d → J.go i H' ∧ ∀ v H'', J.yld i H' v H'' → ∃ I'', Ex I' H' I'' H'' ∧ R K I'' d v) ∧ J.stop xs.length H'
theorem ItOk.mono {K : PySem.W.Frag} {J : It} {xs : List D} {I I1 : Hp} (h : ItOk K J xs I) (l : Le I I1) : ItOk K J xs I1 := fun I' H' l1 l2 => h I' H' (l.trans l1) l2
def SI (X : Cx) (W : WX) (tg iter : Expr) (c : M (List D)) : Prop := ∃ wi, PI X tg iter wi ∧ ∀ (σ : St) (ev : Ev) (I H : Hp) (Q : It → Hp → Prop), Rel X.K σ ev I H → Post X.K W c σ ev I H (fun xs _ I' H' => ∀ J, ItOk X.K J xs I' → Q J H') → wi σ H Q
theorem PI.or {tg iter : Expr} {wi wi' : TI} (h : PI X tg iter wi) (h' : PI X tg iter wi') : PI X tg iter (fun σ H Q => wi σ H Q ∨ wi' σ H Q) :=
  ⟨fun pins s σ H Q I q => q.elim (h.run pins s σ H Q I) (h'.run pins s σ H Q I)⟩
theorem itOk_list {K : PySem.W.Frag} {I : Hp} {a : Addr} {vs : List V} {xs : List D} (h : SqL K I a vs) (rs : Rs K I xs vs) : ItOk K (Itl K a) xs I := fun I' H' l1 l2 => by
  have h' := l2.sqL (l1.sqL h)
  refine ⟨fun i d e => ?_, ⟨vs, h', by rw [rs.length]; exact Nat.le_refl _⟩⟩
  obtain ⟨v, e1, r⟩ := rs.get e
  refine ⟨⟨vs, v, h', e1⟩, fun w H'' hy => ?_⟩
  obtain ⟨rfl, hy⟩ := hy
  have := hy vs h'
  rw [e1] at this
  cases this
  exact ⟨I', Ex.refl l2, R.mono l1 _ _ r⟩
theorem itOk_tup {K : PySem.W.Frag} {I : Hp} {a : Addr} {vs : List V} {xs : List D} (h : SqT K I a vs) (rs : Rs K I xs vs) : ItOk K (Itt K a) xs I := fun I' H' l1 l2 => by
  have h' := l2.sqT (l1.sqT h)
  refine ⟨fun i d e => ?_, ⟨vs, h', by rw [rs.length]; exact Nat.le_refl _⟩⟩
  obtain ⟨v, e1, r⟩ := rs.get e
  refine ⟨⟨vs, v, h', e1⟩, fun w H'' hy => ?_⟩
  obtain ⟨rfl, hy⟩ := hy
  have := hy vs h'
  rw [e1] at this
  cases this
  exact ⟨I', Ex.refl l2, R.mono l1 _ _ r⟩
/-- the items of a list or tuple -/
def itemsD : D → Option (List D)
  | .lst xs => some xs
  | .tup xs => some xs
  | _ => none
def mItems (ca : M D) : M (List D) := ca.bind fun d => M.opt (itemsD d)
theorem si_seq {tg : Expr} {ca : M D} (ha : SE X W e ca) : SI X W tg e (mItems ca) := by
  obtain ⟨ta, pa, sa⟩ := ha
  refine ⟨_, PI.or (pi_list pa) (pi_tup pa), fun σ ev I H Q rel h => ?_⟩
  -- which of both is known by the value alone
  unfold Post mItems M.bind at h
  cases q : ca ev with
  | none => rw [q] at h; exact h.elim
  | some o =>
    cases o with
    | er x ev' =>
      refine .inl (sa σ ev I H _ rel ?_)
      rw [q] at h
      unfold Post
      rw [q]
      exact h
    | ok d ev1 =>
      rw [q] at h
      dsimp only [M.opt] at h
      cases d with
      | lst xs =>
        refine .inl (sa σ ev I H _ rel ?_)
        unfold Post
        rw [q]
        intro I1 H1 s1 r1 v rv
        obtain ⟨a, vs, rfl, h1, h2⟩ := R_lst.mp rv
        exact ⟨a, rfl, ⟨vs, r1.sub.sqL h1⟩, h I1 H1 s1 r1 _ (itOk_list h1 h2)⟩
      | tup xs =>
        refine .inr (sa σ ev I H _ rel ?_)
        unfold Post
        rw [q]
        intro I1 H1 s1 r1 v rv
        obtain ⟨a, vs, rfl, h1, h2⟩ := R_tup.mp rv
        exact ⟨a, rfl, ⟨vs, r1.sub.sqT h1⟩, h I1 H1 s1 r1 _ (itOk_tup h1 h2)⟩
      | _ => exact h.elim
theorem itOk_rng {K : PySem.W.Frag} {I : Hp} {lo : Int} {n : Nat} : ItOk K (Itr lo n) ((List.range n).map fun (i : Nat) => D.int (lo + (i : Int))) I := fun I' H' l1 l2 => by
  refine ⟨fun i d e => ?_, by simp [Itr]⟩
  rw [List.getElem?_map] at e
  by_cases hi : i < n
  · rw [List.getElem?_range hi] at e
    cases e
    refine ⟨hi, fun w H'' hy => ?_⟩
    obtain ⟨rfl, rfl⟩ := hy
    exact ⟨I', Ex.refl l2, R_int.mpr rfl⟩
  · rw [List.getElem?_eq_none (by simpa using hi)] at e
    cases e
def rng1 : List D → Option (List D)
  | [.int j] => if -(2 ^ 62) ≤ j ∧ j < 2 ^ 62 then some ((List.range j.toNat).map fun (i : Nat) => D.int (0 + (i : Int))) else none
  | _ => none
def rng2 : List D → Option (List D)
  | [.int i, .int j] => if -(2 ^ 62) ≤ i ∧ i < 2 ^ 62 ∧ -(2 ^ 62) ≤ j ∧ j < 2 ^ 62 then some ((List.range (j - i).toNat).map fun (k : Nat) => D.int (i + (k : Int))) else none
  | _ => none
def mRng (g : List D → Option (List D)) (ca : M (List D)) : M (List D) := ca.bind fun ds => M.opt (g ds)
theorem si_rng1 {tg : Expr} {ca : M (List D)} (hm : X.mg "range" = none) (hg : Gl X "range") (ha : SA X W [e] ca) (hs : starEach [e] X.env = [(false, eval e X.env)] := by rfl) : SI X W tg (.Call (.Name "range" p) [e] [] pos) (mRng rng1 ca) := by
  obtain ⟨ta, pa, sa⟩ := ha
  refine ⟨_, pi_range1 hg hm pa hs, fun σ ev I H Q rel h => ?_⟩
  refine sa σ ev I H _ rel ((Post.bind h).imp fun ds ev1 I1 H1 s1 r1 h1 vs rs => ?_)
  obtain ⟨xs, e, k⟩ := Post.opt h1
  unfold rng1 at e
  split at e
  · split at e
    · rename_i hb
      cases e
      obtain ⟨v, rfl, h2⟩ := rs.one
      rw [R_int.mp h2]
      exact ⟨_, rfl, hb.1, hb.2, k I1 H1 (Step.refl ..) r1 _ itOk_rng⟩
    · cases e
  · cases e
theorem si_rng2 {a b tg : Expr} {ca : M (List D)} (hm : X.mg "range" = none) (hg : Gl X "range") (ha : SA X W [a, b] ca) (hs : starEach [a, b] X.env = [(false, eval a X.env), (false, eval b X.env)] := by rfl) (hs2 : starEach [b] X.env = [(false, eval b X.env)] := by rfl) :
    SI X W tg (.Call (.Name "range" p) [a, b] [] pos) (mRng rng2 ca) := by
  obtain ⟨ta, pa, sa⟩ := ha
  refine ⟨_, pi_range2 hg hm pa hs hs2, fun σ ev I H Q rel h => ?_⟩
  refine sa σ ev I H _ rel ((Post.bind h).imp fun ds ev1 I1 H1 s1 r1 h1 vs rs => ?_)
  obtain ⟨xs, e, k⟩ := Post.opt h1
  unfold rng2 at e
  split at e
  · split at e
    · rename_i hb
      cases e
      obtain ⟨v, w, rfl, h2, h3⟩ := rs.two
      rw [R_int.mp h2, R_int.mp h3]
      exact ⟨_, _, rfl, hb, k I1 H1 (Step.refl ..) r1 _ itOk_rng⟩
    · cases e
  · cases e
/-- a loop's turn, then the rest -/
def turnL (o : Option OS) (rest : MS) : Option OS := match o with
  | some (.nx ev2) => rest ev2
  | some (.ct ev2) => rest ev2
  | some (.bk ev2) => some (.nx ev2)
  | o => o
theorem turnL_post {K : PySem.W.Frag} {W : WX} {body rest : MS} {σ : St} {ev : Ev} {I H : Hp} {En : Ends} {N : St → Hp → Prop} (h : PostS K W (fun ev => turnL (body ev) rest) σ ev I H En)
    (hN : ∀ σ2 ev2 I2 H2, Step σ ev I H σ2 ev2 I2 H2 → Rel K σ2 ev2 I2 H2 → PostS K W rest σ2 ev2 I2 H2 En → N σ2 H2) : PostS K W body σ ev I H { En with nx := N, ct := N, bk := En.nx } := by
  have h2 := h
  unfold PostS at h
  unfold PostS
  dsimp only at h
  cases q2 : body ev with
  | none => rw [q2] at h; exact h
  | some o =>
    rw [q2] at h
    cases o with
    | nx ev2 => exact fun σ2 I2 H2 s2 r2 => hN σ2 ev2 I2 H2 s2 r2 (h2.on s2 (by rw [q2]; rfl))
    | ct ev2 => exact fun σ2 I2 H2 s2 r2 => hN σ2 ev2 I2 H2 s2 r2 (h2.on s2 (by rw [q2]; rfl))
    | bk ev2 => exact h
    | rt r ev2 => exact h
    | er x ev2 => exact h
def forL (gs : D → Ev → Option Ev) (body : MS) : List D → MS
  | [], ev => some (.nx ev)
  | x :: xs, ev => match gs x ev with
    | none => none
    | some ev1 => turnL (body ev1) (forL gs body xs)
theorem forL_cons (gs : D → Ev → Option Ev) (body : MS) (x : D) (xs : List D) (ev : Ev) : forL gs body (x :: xs) ev = match gs x ev with
    | none => none
    | some ev1 => turnL (body ev1) (forL gs body xs) := rfl
def sFor (gs : D → Ev → Option Ev) (ci : M (List D)) (body : MS) : MS := sE ci fun xs => forL gs body xs
theorem PostS.forC {K : PySem.W.Frag} {gs : D → Ev → Option Ev} {body : MS} {x : D} {xs : List D} {σ : St} {ev : Ev} {I H : Hp} {En : Ends} (h : PostS K W (forL gs body (x :: xs)) σ ev I H En) :
    ∃ ev1, gs x ev = some ev1 ∧ ∀ σ1 I1 H1 (N : St → Hp → Prop), Step σ ev I H σ1 ev1 I1 H1 → (∀ σ2 ev2 I2 H2, Step σ1 ev1 I1 H1 σ2 ev2 I2 H2 → Rel K σ2 ev2 I2 H2 → PostS K W (forL gs body xs) σ2 ev2 I2 H2 En → N σ2 H2) →
      PostS K W body σ1 ev1 I1 H1 { En with nx := N, ct := N, bk := En.nx } := by
  cases q : gs x ev with
  | none =>
    unfold PostS at h
    rw [forL_cons, q] at h
    exact h.elim
  | some ev1 =>
    refine ⟨ev1, rfl, fun σ1 I1 H1 N s1 hN => ?_⟩
    refine turnL_post (rest := forL gs body xs) (h.on s1 ?_) hN
    rw [forL_cons, q]
theorem ss_for {tg iter : Expr} {body : List Stmt} {gs : D → Ev → Option Ev} {ts : List Nat} {ci : M (List D)} {cb : MS} (hp : PassesOwn (model X.prog X.w) X.A X.env X.xe) (hc : X.calm = true) (hi : SI X W tg iter ci) (hg : SG X tg gs ts) (hb : SB X W body cb)
    (hs : ∀ x, foldedSetIterable iter X.env x = pure x := by intro _; rfl) : SS X W (.For tg iter body [] pos) (sFor gs ci cb) := by
  obtain ⟨wi, pi, si⟩ := hi
  obtain ⟨g, pg, sg⟩ := hg
  obtain ⟨tb, pb, sb⟩ := hb
  refine ⟨_, ps_for hp hc pi pg pb hs, fun σ ev I H En rel h => ?_⟩
  refine si σ ev I H _ rel (h.expr.imp fun xs ev0 I0 H0 s0 r0 h0 J hJ => ?_)
  refine ⟨fun i m σ H => ∃ ev I, m = xs.length - i ∧ i ≤ xs.length ∧ Rel X.K σ ev I H ∧ Le I0 I ∧ PostS X.K W (forL gs cb (xs.drop i)) σ ev I H En, ⟨xs.length, ev0, I0, rfl, Nat.zero_le _, r0, Le.refl _, h0⟩, ?_⟩
  rintro i m σ1 H1 ⟨ev1, I1, rfl, hi, r1, l1, h1⟩
  obtain ⟨turn, stop⟩ := hJ I1 H1 l1 r1.sub
  by_cases hlt : i < xs.length
  · have hxi : xs[i]? = some xs[i] := List.getElem?_eq_getElem hlt
    obtain ⟨go, yl⟩ := turn i _ hxi
    rw [List.drop_eq_getElem_cons hlt] at h1
    obtain ⟨ev2, e2, h2⟩ := h1.forC
    refine .inr ⟨go, fun σ' H' => ∃ ev I, Rel X.K σ' ev I H' ∧ Le I0 I ∧ PostS X.K W (forL gs cb (xs.drop (i + 1))) σ' ev I H' En, fun σ' H' ⟨ev', I', q1, q2, q3⟩ => ⟨xs.length - (i + 1), by omega, ev', I', rfl, hlt, q1, q2, q3⟩, fun v H' hy => ?_⟩
    obtain ⟨I', ex, rv⟩ := yl v H' hy
    refine sg σ1 ev1 ev2 I' H' v xs[i] _ (r1.ex ex) rv e2 fun σ2 s2 r2 _ => ?_
    refine sb σ2 ev2 I' H' _ r2 (h2 σ2 I' H' _ (ex.step.trans s2) fun σ3 ev3 I3 H3 s3 r3 h3 => ⟨ev3, I3, r3, ?_, h3⟩)
    exact l1.trans (ex.le.trans s3.le)
  · have ei : i = xs.length := by omega
    subst ei
    rw [List.drop_length] at h1
    exact .inl ⟨stop, h1.nx rfl σ1 I1 H1 (Step.refl ..) r1⟩
def whileT (n : Ev → Option OS) (ct : M Bool) (body : MS) : MS := fun ev => match ct ev with
  | none => none
  | some (.er e ev') => some (.er e ev')
  | some (.ok b ev') => if b = true then turnL (body ev') n else some (.nx ev')
def whileL (ct : M Bool) (body : MS) : Nat → MS
  | 0 => fun _ => none
  | n + 1 => whileT (whileL ct body n) ct body
theorem whileL_succ (ct : M Bool) (body : MS) (n : Nat) : whileL ct body (n + 1) = whileT (whileL ct body n) ct body := rfl
theorem ss_while {c : Expr} {body : List Stmt} {ct : M Bool} {cb : MS} (n : Nat) (hp : PassesOwn (model X.prog X.w) X.A X.env X.xe) (hc : STt X W c ct) (hb : SB X W body cb) : SS X W (.While c body [] pos) (whileL ct cb n) := by
  obtain ⟨tc, pc, sc⟩ := hc
  obtain ⟨tb, pb, sb⟩ := hb
  refine ⟨_, ps_while hp pc pb, fun σ ev I H En rel h => ?_⟩
  refine ⟨fun m σ H => ∃ ev I, Rel X.K σ ev I H ∧ PostS X.K W (whileL ct cb m) σ ev I H En, ⟨n, ev, I, rel, h⟩, ?_⟩
  rintro m σ1 H1 ⟨ev1, I1, r1, h1⟩
  cases m with
  | zero => exact h1.elim
  | succ m =>
    rw [whileL_succ] at h1
    have h0 := h1
    refine sc σ1 ev1 I1 H1 _ r1 ?_
    unfold PostS whileT at h1
    unfold Post
    cases q : ct ev1 with
    | none => rw [q] at h1; exact h1
    | some o =>
      rw [q] at h1
      cases o with
      | er x ev2 => exact fun I' H' dd s r xd => h1 σ1 I' H' dd s r xd
      | ok b ev2 =>
        cases b with
        | false =>
          intro I2 H2 s2 r2
          rw [if_neg Bool.false_ne_true]
          exact h1 σ1 I2 H2 s2 r2
        | true =>
          intro I2 H2 s2 r2
          rw [if_pos rfl]
          refine ⟨fun σ' H' => ∃ ev I, Rel X.K σ' ev I H' ∧ PostS X.K W (whileL ct cb m) σ' ev I H' En, fun σ' H' z => ⟨m, Nat.lt_succ_self m, z⟩, sb σ1 ev2 I2 H2 _ r2 ?_⟩
          refine turnL_post (rest := whileL ct cb m) (h0.on s2 ?_) fun σ3 ev3 I3 H3 s3 r3 h3 => ⟨ev3, I3, r3, h3⟩
          unfold whileT
          rw [q]
          rfl
end
end FL
set_option Elab.async false
set_option linter.all false
set_option maxRecDepth 100000
namespace FL
open PySem
open PySem.Spec
open L2
def tOf (K : PySem.W.Frag) (W : WX) (c : M D) : TE := fun σ H Q => ∃ ev I, Rel K σ ev I H ∧ Post K W c σ ev I H (RG K Q)
def ttOf (K : PySem.W.Frag) (W : WX) (c : M Bool) : TT := fun σ H Q => ∃ ev I, Rel K σ ev I H ∧ Post K W c σ ev I H fun b _ _ H' => Q b H'
def gOf (K : PySem.W.Frag) (gs : D → Ev → Option Ev) (ts : List Nat) : TG := fun v σ H Q => ∃ ev I d ev', Rel K σ ev I H ∧ R K I d v ∧ gs d ev = some ev' ∧
  ∀ σ', Step σ ev I H σ' ev' I H → Rel K σ' ev' I H → (∀ vs : List Nat, (∀ t ∈ ts, t ∈ vs) → wipe σ' vs = wipe σ vs) → Q σ' H
theorem pe_of {X : Cx} {W : WX} {e : Expr} {c : M D} (h : SE X W e c) : PE X e (tOf X.K W c) := by
  obtain ⟨t, p, s⟩ := h
  exact ⟨fun pins st σ H Q I ⟨ev, J, r, q⟩ => p.run pins st σ H Q I (s σ ev J H Q r q)⟩
theorem pt_of {X : Cx} {W : WX} {e : Expr} {c : M Bool} (h : STt X W e c) : PT X e (ttOf X.K W c) := by
  obtain ⟨t, p, s⟩ := h
  exact ⟨fun pins st σ H Q I ⟨ev, J, r, q⟩ => p.run pins st σ H Q I (s σ ev J H Q r q)⟩
theorem pg_of {X : Cx} {tgt : Expr} {gs : D → Ev → Option Ev} {ts : List Nat} (h : SG X tgt gs ts) : PG X tgt (gOf X.K gs ts) := by
  obtain ⟨g, p, s⟩ := h
  exact ⟨fun pins st σ H v u Q I r ⟨ev, J, d, ev', q1, q2, q3, q4⟩ => p.run pins st σ H v u Q I r (s σ ev ev' J H v d Q q1 q2 q3 q4)⟩
/-- the tests of a comprehension -/
def STs (X : Cx) (ifs : List Expr) (c : M Bool) : Prop := PTs X ifs (ttOf X.K (fun _ _ _ _ => False) c)
theorem sts_nil {X : Cx} : STs X [] (M.ret true) := ⟨fun pins st σ H Q I ⟨ev, J, r, q⟩ => (pts_nil (X := X)).run pins st σ H Q I (Post.ret (α := Bool) r q)⟩
theorem sts_one {X : Cx} {e : Expr} {c : M Bool} (h : STt X (fun _ _ _ _ => False) e c) : STs X [e] c := pts_one (pt_of h)
def wipeE (ev : Ev) : List Nat → Ev
  | [] => ev
  | v :: vs => (wipeE ev vs).set v none
def restE (ev ev3 : Ev) : List Nat → Ev
  | [] => ev3
  | v :: vs => (restE ev ev3 vs).set v (ev.getD v none)
def noCell (ev : Ev) (vs : List Nat) : Bool := vs.all fun j => match ev[j]? with
  | some (some (.own _)) => false
  | some (some (.bor _)) => false
  | _ => true
theorem wipeE_len (ev : Ev) : ∀ vs : List Nat, (wipeE ev vs).length = ev.length
  | [] => rfl
  | v :: vs => by unfold wipeE; rw [List.length_set, wipeE_len ev vs]
theorem restE_len (ev ev3 : Ev) : ∀ vs : List Nat, (restE ev ev3 vs).length = ev3.length
  | [] => rfl
  | v :: vs => by unfold restE; rw [List.length_set, restE_len ev ev3 vs]
theorem wipeE_get (ev : Ev) : ∀ (vs : List Nat) (j : Nat) (s : SV), (wipeE ev vs)[j]? = some (some s) ↔ j ∉ vs ∧ ev[j]? = some (some s)
  | [], j, s => by simp [wipeE]
  | v :: vs, j, s => by
    unfold wipeE
    by_cases h : v = j
    · subst h
      constructor
      · intro q
        rcases set_get q with ⟨_, q⟩ | ⟨n, _⟩
        · cases q
        · exact absurd rfl n
      · rintro ⟨n, _⟩
        exact absurd (List.mem_cons_self ..) n
    · rw [List.getElem?_set_ne h, wipeE_get ev vs j s]
      simp [Ne.symm h]
theorem restE_get (ev ev3 : Ev) (hl : ev.length = ev3.length) : ∀ (vs : List Nat) (j : Nat), (restE ev ev3 vs)[j]? = if j ∈ vs then ev[j]? else ev3[j]?
  | [], j => by simp [restE]
  | v :: vs, j => by
    unfold restE
    by_cases h : v = j
    · subst h
      rw [if_pos (List.mem_cons_self ..)]
      by_cases hv : v < ev.length
      · rw [List.getElem?_set_self (by rw [restE_len]; omega), List.getElem?_eq_getElem hv]
        simp [List.getD, hv]
      · rw [List.getElem?_eq_none (by rw [List.length_set, restE_len]; omega), List.getElem?_eq_none (by omega)]
    · rw [List.getElem?_set_ne h, restE_get ev ev3 hl vs j]
      have : j ∈ v :: vs ↔ j ∈ vs := by simp [Ne.symm h]
      simp only [this]
theorem noCell_ok {ev : Ev} {vs : List Nat} (h : noCell ev vs = true) {j : Nat} (hj : j ∈ vs) {s : SV} (e : ev[j]? = some (some s)) : s.isCell = false := by
  have := List.all_eq_true.mp h j hj
  rw [e] at this
  cases s <;> first | rfl | cases this
theorem wipe_rel {K : PySem.W.Frag} {σ : St} {ev : Ev} {I H : Hp} (r : Rel K σ ev I H) (vs : List Nat) : Rel K (wipe σ vs) (wipeE ev vs) I H := by
  have g : ∀ (j : Nat), j ∉ vs → (wipe σ vs)[j]? = σ[j]? := fun j hj => by rw [wipe_get, if_neg hj]
  refine ⟨by rw [wipeE_len, wipe_length, r.len], r.sub, fun j s e => ?_, fun i j s t a e1 e2 c1 c2 g1 g2 => ?_⟩
  · obtain ⟨n, e⟩ := (wipeE_get ev vs j s).mp e
    obtain ⟨v, h1, h2⟩ := r.slot j s e
    exact ⟨v, by rw [g j n]; exact h1, h2⟩
  · obtain ⟨n1, e1⟩ := (wipeE_get ev vs i s).mp e1
    obtain ⟨n2, e2⟩ := (wipeE_get ev vs j t).mp e2
    rw [g i n1] at g1
    rw [g j n2] at g2
    exact r.sep i j s t a e1 e2 c1 c2 g1 g2
/-- back from a turn of the block -/
theorem inner_step {K : PySem.W.Frag} {σ σ2 : St} {ev ev2 ev3 : Ev} {I H I3 H3 : Hp} {vs : List Nat} (r : Rel K σ ev I H) (nc : noCell ev vs = true) (s1 : Step (wipe σ vs) (wipeE ev vs) I H σ2 ev2 I H) (hw : wipe σ2 vs = wipe σ vs)
    (s2 : Step σ2 ev2 I H σ2 ev3 I3 H3) (r2 : Rel K σ2 ev3 I3 H3) : Step σ ev I H σ (restE ev ev3 vs) I3 H3 ∧ Rel K σ (restE ev ev3 vs) I3 H3 := by
  have s := s1.trans s2
  have hl : ev.length = ev3.length := by
    have h1 := congrArg List.length hw
    rw [wipe_length, wipe_length] at h1
    rw [r.len, r2.len, h1]
  have at2 : ∀ j, j ∉ vs → σ2[j]? = σ[j]? := fun j hj => by
    have := congrArg (fun l : St => l[j]?) hw
    simpa only [wipe_get, if_neg hj] using this
  have wat : ∀ j, j ∉ vs → (wipe σ vs)[j]? = σ[j]? := fun j hj => by rw [wipe_get, if_neg hj]
  have oc : ∀ s : SV, s.isOwn = true → s.isCell = true := fun s h => by cases s <;> first | rfl | cases h
  have down : ∀ a, Own (wipe σ vs) (wipeE ev vs) a → Own σ ev a := fun a ⟨j, t, e, hc, hv⟩ => by
    obtain ⟨n, e⟩ := (wipeE_get ev vs j t).mp e
    exact ⟨j, t, e, hc, by rw [← wat j n]; exact hv⟩
  have downL : ∀ a, LOwn (wipe σ vs) (wipeE ev vs) a → LOwn σ ev a := fun a ⟨j, t, e, hc, hv⟩ => by
    obtain ⟨n, e⟩ := (wipeE_get ev vs j t).mp e
    exact ⟨j, t, e, hc, by rw [← wat j n]; exact hv⟩
  have rest : ∀ (j : Nat) (t : SV), (restE ev ev3 vs)[j]? = some (some t) → (j ∈ vs ∧ ev[j]? = some (some t) ∧ t.isCell = false) ∨ (j ∉ vs ∧ ev3[j]? = some (some t)) := fun j t e => by
    rw [restE_get ev ev3 hl] at e
    by_cases hj : j ∈ vs
    · rw [if_pos hj] at e
      exact .inl ⟨hj, e, noCell_ok nc hj e⟩
    · rw [if_neg hj] at e
      exact .inr ⟨hj, e⟩
  refine ⟨⟨fun a o h n => s.keep a o h fun w => n (down a w), s.there, s.le, fun a h1 h2 n => s.new a h1 h2 fun w => n (downL a w), fun a ⟨j, t, e, hc, hv⟩ => ?_, fun a ⟨j, t, e, hc, hv⟩ => ?_, fun j c e => ?_⟩,
    ⟨by rw [restE_len, ← hl, r.len], r2.sub, fun j t e => ?_, fun i j t t' a e1 e2 c1 c2 g1 g2 => ?_⟩⟩
  · rcases rest j t e with ⟨_, _, z⟩ | ⟨n, e'⟩
    · rw [z] at hc; cases hc
    · exact (s.own a ⟨j, t, e', hc, by rw [at2 j n]; exact hv⟩).imp (down a) id
  · rcases rest j t e with ⟨_, _, z⟩ | ⟨n, e'⟩
    · rw [oc t hc] at z; cases z
    · exact (s.lown a ⟨j, t, e', hc, by rw [at2 j n]; exact hv⟩).imp (downL a) id
  · have n : j ∉ vs := fun z => by
      have := noCell_ok nc z e
      cases this
    obtain ⟨⟨c', b1⟩, _⟩ := s.bor j c ((wipeE_get ev vs j _).mpr ⟨n, e⟩)
    exact ⟨⟨c', by rw [restE_get ev ev3 hl, if_neg n]; exact b1⟩, rfl⟩
  · rcases rest j t e with ⟨hj, e', z⟩ | ⟨n, e'⟩
    · obtain ⟨v, h1, h2⟩ := r.slot j t e'
      refine ⟨v, h1, ?_⟩
      cases t with
      | d d => exact R.mono s.le _ _ h2
      | own => cases z
      | bor => cases z
    · obtain ⟨v, h1, h2⟩ := r2.slot j t e'
      exact ⟨v, by rw [← at2 j n]; exact h1, h2⟩
  · rcases rest i t e1 with ⟨_, _, z⟩ | ⟨n1, e1'⟩
    · rw [z] at c1; cases c1
    rcases rest j t' e2 with ⟨_, _, z⟩ | ⟨n2, e2'⟩
    · rw [z] at c2; cases c2
    exact r2.sep i j t t' a e1' e2' c1 c2 (by rw [at2 i n1]; exact g1) (by rw [at2 j n2]; exact g2)
def turnC (ct : M Bool) (ce : M D) : M (Option D) := ct.bind fun b => if b = true then ce.bind fun d => M.ret (some d) else M.ret none
def inner {α : Type} (vs : List Nat) (set : Ev → Option Ev) (f : M α) : M α := fun ev => if noCell ev vs = true then (match set (wipeE ev vs) with
  | none => none
  | some ev2 => (match f ev2 with
    | some (.ok a ev3) => some (.ok a (restE ev ev3 vs))
    | _ => none)) else none
def compL (vs : List Nat) (gs : D → Ev → Option Ev) (ct : M Bool) (ce : M D) : List D → List D → M (List D)
  | [], acc => M.ret acc
  | x :: xs, acc => (inner vs (gs x) (turnC ct ce)).bind fun o => match o with
    | some d => if acc.length < sizeLine then compL vs gs ct ce xs (acc ++ [d]) else M.fail
    | none => compL vs gs ct ce xs acc
def mComp (vs : List Nat) (gs : D → Ev → Option Ev) (ct : M Bool) (ce : M D) (ci : M (List D)) : M Cell := ci.bind fun xs => (compL vs gs ct ce xs []).bind fun ds => M.ret (.lst ds)
theorem inner_some {α : Type} {vs : List Nat} {set : Ev → Option Ev} {f : M α} {ev : Ev} {o : Out α} (h : inner vs set f ev = some o) : noCell ev vs = true ∧ ∃ ev2 a ev3, set (wipeE ev vs) = some ev2 ∧ f ev2 = some (.ok a ev3) ∧ o = .ok a (restE ev ev3 vs) := by
  unfold inner at h
  by_cases nc : noCell ev vs = true
  · rw [if_pos nc] at h
    refine ⟨nc, ?_⟩
    split at h
    · cases h
    · rename_i ev2 e1
      split at h
      · rename_i a ev3 e2
        cases h
        exact ⟨ev2, a, ev3, e1, e2, rfl⟩
      · cases h
  · rw [if_neg nc] at h
    cases h
theorem compL_cons {vs : List Nat} {gs : D → Ev → Option Ev} {ct : M Bool} {ce : M D} {x : D} {xs acc : List D} {ev : Ev} {o : Out (List D)} (h : compL vs gs ct ce (x :: xs) acc ev = some o) :
    noCell ev vs = true ∧ ∃ ev2 r ev3, gs x (wipeE ev vs) = some ev2 ∧ turnC ct ce ev2 = some (.ok r ev3) ∧
      (match r with
        | some d => acc.length < sizeLine ∧ compL vs gs ct ce xs (acc ++ [d]) (restE ev ev3 vs) = some o
        | none => compL vs gs ct ce xs acc (restE ev ev3 vs) = some o) := by
  unfold compL M.bind at h
  cases q : inner vs (gs x) (turnC ct ce) ev with
  | none => rw [q] at h; cases h
  | some w =>
    obtain ⟨nc, ev2, r, ev3, e1, e2, rfl⟩ := inner_some q
    rw [q] at h
    refine ⟨nc, ev2, r, ev3, e1, e2, ?_⟩
    cases r with
    | some d =>
      dsimp only at h ⊢
      by_cases hl : acc.length < sizeLine
      · rw [if_pos hl] at h
        exact ⟨hl, h⟩
      · rw [if_neg hl] at h
        cases h
    | none => exact h
section
variable {X : Cx} {W : WX}
/-- what a comprehension's walk needs -/
def SLc (X : Cx) (W : WX) (tg iter : Expr) (gs : D → Ev → Option Ev) (ts : List Nat) (ct : M Bool) (ce : M D) (ci : M (List D)) (own : List (Str × Nat)) : Prop := ∃ wi, PI X tg iter wi ∧
  ∀ (σ : St) (ev : Ev) (I H : Hp) (Q : VK), Rel X.K σ ev I H → Post X.K W (mComp (own.map (·.2)) gs ct ce ci) σ ev I H (RF X.K σ H Q) → tLc wi (gOf X.K gs ts) (ttOf X.K (fun _ _ _ _ => False) ct) (tOf X.K (fun _ _ _ _ => False) ce) (own.map (·.2)) σ H Q
theorem slc {tg iter : Expr} {own : List (Str × Nat)} {gs : D → Ev → Option Ev} {ts : List Nat} {ct : M Bool} {ce : M D} {ci : M (List D)} (hi : SI X W tg iter ci) (hts : ∀ t ∈ ts, t ∈ own.map (·.2)) : SLc X W tg iter gs ts ct ce ci own := by
  obtain ⟨wi, pi, si⟩ := hi
  refine ⟨wi, pi, fun σ ev I H Q rel h => ?_⟩
  generalize hvs : own.map (·.2) = vs at h hts
  refine si σ ev I H _ rel ((Post.bind h).imp fun xs ev1 I1 H1 s1 r1 h1 J hJ Dd hD => ?_)
  -- what the whole comes to
  obtain ⟨ds, evE, eE, kE⟩ : ∃ ds evE, compL vs gs ct ce xs [] ev1 = some (.ok ds evE) ∧ ∀ I' H', Step σ ev1 I1 H1 σ evE I' H' → Rel X.K σ evE I' H' → RF X.K σ H Q (.lst ds) evE I' H' := by
    unfold Post M.bind M.ret at h1
    cases q : compL vs gs ct ce xs [] ev1 with
    | none => rw [q] at h1; exact h1.elim
    | some o =>
      cases o with
      | ok ds evE => rw [q] at h1; exact ⟨ds, evE, rfl, h1⟩
      | er x evE =>
        exfalso
        have never : ∀ (xs acc : List D) (ev evE : Ev) (x : Err), compL vs gs ct ce xs acc ev ≠ some (.er x evE) := by
          intro xs
          induction xs with
          | nil => intro acc ev evE x z; cases z
          | cons y xs ih =>
            intro acc ev evE x z
            obtain ⟨_, ev2, r, ev3, _, _, z⟩ := compL_cons z
            cases r with
            | some d => exact ih _ _ _ _ z.2
            | none => exact ih _ _ _ _ z
        exact never _ _ _ _ _ q
  have h0 : H Dd = none := Classical.byContradiction fun z => s1.there Dd z hD
  have far : ∀ {ev' : Ev} {I' H' : Hp} {o : HO}, Step σ ev1 I1 H1 σ ev' I' H' → Step σ ev1 I1 H1 σ ev' I' (upd H' Dd o) := fun {ev' I' H' o} s => by
    refine ⟨fun a u q n => ?_, fun a q => ?_, s.le, s.new, s.own, s.lown, s.bor⟩
    · rw [upd_ne (ne_of_none q hD)]; exact s.keep a u q n
    · by_cases z : a = Dd
      · rw [z, upd_same]; exact fun z => by cases z
      · rw [upd_ne z]; exact s.there a q
  have relU : ∀ {ev' : Ev} {I' H' : Hp} {o : HO}, Rel X.K σ ev' I' H' → I' Dd = none → ¬ Own σ ev' Dd → Rel X.K σ ev' I' (upd H' Dd o) := fun {ev' I' H' o} r n1 n2 => by
    refine ⟨r.len, fun a u q => ?_, fun j t e => ?_, r.sep⟩
    · have hne : a ≠ Dd := fun z => by rw [z, n1] at q; cases q
      rw [upd_ne hne]; exact r.sub a u q
    · obtain ⟨v, q1, q2⟩ := r.slot j t e
      refine ⟨v, q1, ?_⟩
      have cell : ∀ c p, t.isCell = true → v = .ref p → CellAt X.K I' H' p c → CellAt X.K I' (upd H' Dd o) p c := fun c p hk hv q => q.mono (Le.refl _) fun u hu => by
        have hne : p ≠ Dd := fun z => n2 ⟨j, t, e, hk, by rw [q1, hv, z]⟩
        rw [upd_ne hne]; exact hu
      cases t with
      | d d => exact q2
      | own c => obtain ⟨p, hv, q3, q4⟩ := q2; exact ⟨p, hv, q3, cell c p rfl hv q4⟩
      | bor c => obtain ⟨p, hv, q3, q4⟩ := q2; exact ⟨p, hv, q3, cell c p rfl hv q4⟩
  refine ⟨fun i m H' => ∃ ev' I' acc vacc, m = xs.length - i ∧ i ≤ xs.length ∧ Step σ ev1 I1 H1 σ ev' I' H' ∧ Rel X.K σ ev' I' H' ∧ H' Dd = some (.lst vacc) ∧ I' Dd = none ∧ ¬ Own σ ev' Dd ∧ Rs X.K I' acc vacc ∧
    compL vs gs ct ce (xs.drop i) acc ev' = some (.ok ds evE), ⟨xs.length, ev1, I1, [], [], rfl, Nat.zero_le _, far (Step.refl ..), relU r1 (r1.fresh hD).1 (r1.fresh hD).2, upd_same, (r1.fresh hD).1, (r1.fresh hD).2, Rs_nil.mpr rfl, eE⟩, ?_⟩
  rintro i m H2 ⟨ev2, I2, acc, vacc, rfl, hi, s2, r2, hD2, nI, nO, rs, e2⟩
  obtain ⟨turn, stop⟩ := hJ I2 H2 s2.le r2.sub
  by_cases hlt : i < xs.length
  · have hxi : xs[i]? = some xs[i] := List.getElem?_eq_getElem hlt
    obtain ⟨go, yl⟩ := turn i _ hxi
    rw [List.drop_eq_getElem_cons hlt] at e2
    obtain ⟨nc, ev3, rr, ev4, e3, e4, e5⟩ := compL_cons e2
    refine .inr ⟨go, fun H' => ∃ ev' I' acc vacc, Step σ ev1 I1 H1 σ ev' I' H' ∧ Rel X.K σ ev' I' H' ∧ H' Dd = some (.lst vacc) ∧ I' Dd = none ∧ ¬ Own σ ev' Dd ∧ Rs X.K I' acc vacc ∧ compL vs gs ct ce (xs.drop (i + 1)) acc ev' = some (.ok ds evE),
      fun H' ⟨ev', I', acc, vacc, q⟩ => ⟨xs.length - (i + 1), by omega, ev', I', acc, vacc, rfl, hlt, q⟩, fun v H3 hy => ?_⟩
    obtain ⟨I3, ex, rv⟩ := yl v H3 hy
    have r3 := r2.ex ex
    refine ⟨wipeE ev2 vs, I3, xs[i], ev3, wipe_rel r3 vs, rv, e3, fun σ4 s4 r4 w4 => ⟨(w4 vs hts).trans wipe_wipe, ?_⟩⟩
    have hw : wipe σ4 vs = wipe σ vs := (w4 vs hts).trans wipe_wipe
    -- the turn as a whole
    have hf : Post X.K (fun _ _ _ _ => False) (turnC ct ce) σ4 ev3 I3 H3 fun o ev5 I5 H5 => match o with
        | some d => ∀ y, R X.K I5 d y → ∃ acc, H5 Dd = some (.lst acc) ∧ acc.length < sizeLine ∧ ∃ ev' I' acc' vacc, Step σ ev1 I1 H1 σ ev' I' (upd H5 Dd (.lst (acc ++ [y]))) ∧ Rel X.K σ ev' I' (upd H5 Dd (.lst (acc ++ [y]))) ∧ (upd H5 Dd (.lst (acc ++ [y]))) Dd = some (.lst vacc) ∧ I' Dd = none ∧ ¬ Own σ ev' Dd ∧ Rs X.K I' acc' vacc ∧ compL vs gs ct ce (xs.drop (i + 1)) acc' ev' = some (.ok ds evE)
        | none => ∃ ev' I' acc vacc, Step σ ev1 I1 H1 σ ev' I' H5 ∧ Rel X.K σ ev' I' H5 ∧ H5 Dd = some (.lst vacc) ∧ I' Dd = none ∧ ¬ Own σ ev' Dd ∧ Rs X.K I' acc vacc ∧ compL vs gs ct ce (xs.drop (i + 1)) acc ev' = some (.ok ds evE) := by
      unfold Post
      rw [e4]
      dsimp only
      intro I5 H5 s5 r5
      obtain ⟨s6, r6⟩ := inner_step r3 nc s4 hw s5 r5
      have hD5 : H5 Dd = some (.lst vacc) := s6.keep Dd _ (ex.same Dd _ hD2) nO
      have nI5 : I5 Dd = none := s6.new Dd (by rw [ex.same Dd _ hD2]; exact fun z => by cases z) (ex.new Dd (by rw [hD2]; exact fun z => by cases z) nI) fun w => nO w.toOwn
      have nO5 : ¬ Own σ (restE ev2 ev4 vs) Dd := fun w => (s6.own Dd w).elim nO fun z => by rw [ex.same Dd _ hD2] at z; cases z
      have s7 := s2.trans ((ex.step (σ := σ) (ev := ev2)).trans s6)
      cases rr with
      | none => exact ⟨_, I5, acc, vacc, s7, r6, hD5, nI5, nO5, Rs.mono (ex.le.trans s6.le) _ _ rs, e5⟩
      | some d =>
        dsimp only at e5 ⊢
        intro y ry
        refine ⟨vacc, hD5, by rw [← rs.length]; exact e5.1, _, I5, acc ++ [d], vacc ++ [y], far s7, relU r6 nI5 nO5, upd_same, nI5, nO5, ?_, e5.2⟩
        exact (Rs.mono (ex.le.trans s6.le) _ _ rs).append (Rs_cons.mpr ⟨y, [], rfl, ry, Rs_nil.mpr rfl⟩)
    refine ⟨ev3, I3, r4, (Post.bind hf).imp fun b ev6 I6 H6 s6 r6 h6 => ?_⟩
    cases b with
    | false =>
      rw [if_neg Bool.false_ne_true]
      exact Post.ret (α := Option D) r6 h6
    | true =>
      rw [if_pos rfl]
      rw [if_pos rfl] at h6
      exact ⟨ev6, I6, r6, (Post.bind h6).imp fun d ev7 I7 H7 s7 r7 h7 y ry => Post.ret (α := Option D) r7 h7 y ry⟩
  · have ei : i = xs.length := by omega
    subst ei
    rw [List.drop_length] at e2
    cases e2
    exact .inl ⟨stop, kE I2 H2 s2 r2 Dd h0 nI nO ⟨vacc, hD2, rs⟩⟩
theorem sef_comp {elt tg iter : Expr} {ifs : List Expr} {scope : Scope} {own : List (Str × Nat)} {pos : Pos} {gs : D → Ev → Option Ev} {ts : List Nat} {ct : M Bool} {ce : M D} {ci : M (List D)} (hc : X.calm = true) (hN : X.N.Nodup) (hi : SI X W tg iter ci) (ok : BlkOk X.N X.env.scope scope own)
    (hts : ∀ t ∈ ts, t ∈ own.map (·.2))
    (hg : ∀ (s : Shared) (H : Hp) (C : Addr) (cl : List (Str × Addr)) (fp : List Addr), SG (X.blk s H scope (compEnvC scope cl C X.env) fp) tg gs ts)
    (ht : ∀ (s : Shared) (H : Hp) (C : Addr) (cl : List (Str × Addr)) (fp : List Addr), STs (X.blk s H scope (compEnvC scope cl C X.env) fp) ifs ct)
    (he : ∀ (s : Shared) (H : Hp) (C : Addr) (cl : List (Str × Addr)) (fp : List Addr), SE (X.blk s H scope (compEnvC scope cl C X.env) fp) (fun _ _ _ _ => False) elt ce) (hs : ∀ x, foldedSetIterable iter X.env x = pure x := by intro _; rfl) :
    SEF X W (.ListComp elt [⟨tg, iter, ifs, 0⟩] scope pos) (mComp (own.map (·.2)) gs ct ce ci) := by
  obtain ⟨wi, pi, si⟩ := slc (own := own) (gs := gs) (ct := ct) (ce := ce) hi hts
  exact ⟨_, pe_lc (g := gOf X.K gs ts) (tt := ttOf X.K (fun _ _ _ _ => False) ct) (te := tOf X.K (fun _ _ _ _ => False) ce) hc hN pi ok (fun s H C cl fp => pg_of (hg s H C cl fp)) (fun s H C cl fp => ht s H C cl fp) (fun s H C cl fp => pe_of (he s H C cl fp)) hs, si⟩
theorem ss_setLc (i : Nat) {y : Str} {py spos : Pos} {elt tg iter : Expr} {ifs : List Expr} {scope : Scope} {own : List (Str × Nat)} {pos : Pos} {gs : D → Ev → Option Ev} {ts : List Nat} {ct : M Bool} {ce : M D} {ci : M (List D)} (hc : X.calm = true) (hN : X.N.Nodup) (hy : X.N[i]? = some y) (hyl : X.env.scope.names.lookup y = some .local) (hsw : swapsWith (.ListComp elt [⟨tg, iter, ifs, 0⟩] scope pos) (some (.Name y py)) spos.line X.env = pure true) (hi : SI X W tg iter ci) (ok : BlkOk X.N X.env.scope scope own)
    (hts : ∀ t ∈ ts, t ∈ own.map (·.2))
    (hg : ∀ (s : Shared) (H : Hp) (C : Addr) (cl : List (Str × Addr)) (fp : List Addr), SG (X.blk s H scope (compEnvC scope cl C X.env) fp) tg gs ts)
    (ht : ∀ (s : Shared) (H : Hp) (C : Addr) (cl : List (Str × Addr)) (fp : List Addr), STs (X.blk s H scope (compEnvC scope cl C X.env) fp) ifs ct)
    (he : ∀ (s : Shared) (H : Hp) (C : Addr) (cl : List (Str × Addr)) (fp : List Addr), SE (X.blk s H scope (compEnvC scope cl C X.env) fp) (fun _ _ _ _ => False) elt ce) (hs : ∀ x, foldedSetIterable iter X.env x = pure x := by intro _; rfl) :
    SS X W (.Assign [.Name y py] (.ListComp elt [⟨tg, iter, ifs, 0⟩] scope pos) spos) (sSet i (mFz (mComp (own.map (·.2)) gs ct ce ci))) := by
  obtain ⟨wi, pi, si⟩ := slc (own := own) (gs := gs) (ct := ct) (ce := ce) hi hts
  refine ⟨_, ps_setLc (g := gOf X.K gs ts) (tt := ttOf X.K (fun _ _ _ _ => False) ct) (te := tOf X.K (fun _ _ _ _ => False) ce) hc hN hy hyl hsw pi ok (fun s H C cl fp => pg_of (hg s H C cl fp)) (fun s H C cl fp => ht s H C cl fp) (fun s H C cl fp => pe_of (he s H C cl fp)) hs, fun σ ev I H En rel h => ?_⟩
  refine si σ ev I H _ rel (Post.fz (h.expr.imp fun d ev1 I1 H1 s1 r1 h1 v rv => ?_))
  obtain ⟨ev2, e, k⟩ := h1.opt
  obtain ⟨s2, r2⟩ := set_data r1 e rv
  exact k _ _ _ s2 r2
/-- the same, kept as a list of the frame's own -/
theorem ss_setLcF (i : Nat) {y : Str} {py spos : Pos} {elt tg iter : Expr} {ifs : List Expr} {scope : Scope} {own : List (Str × Nat)} {pos : Pos} {gs : D → Ev → Option Ev} {ts : List Nat} {ct : M Bool} {ce : M D} {ci : M (List D)} (hc : X.calm = true) (hN : X.N.Nodup) (hy : X.N[i]? = some y) (hyl : X.env.scope.names.lookup y = some .local) (hsw : swapsWith (.ListComp elt [⟨tg, iter, ifs, 0⟩] scope pos) (some (.Name y py)) spos.line X.env = pure true) (hi : SI X W tg iter ci) (ok : BlkOk X.N X.env.scope scope own)
    (hts : ∀ t ∈ ts, t ∈ own.map (·.2))
    (hg : ∀ (s : Shared) (H : Hp) (C : Addr) (cl : List (Str × Addr)) (fp : List Addr), SG (X.blk s H scope (compEnvC scope cl C X.env) fp) tg gs ts)
    (ht : ∀ (s : Shared) (H : Hp) (C : Addr) (cl : List (Str × Addr)) (fp : List Addr), STs (X.blk s H scope (compEnvC scope cl C X.env) fp) ifs ct)
    (he : ∀ (s : Shared) (H : Hp) (C : Addr) (cl : List (Str × Addr)) (fp : List Addr), SE (X.blk s H scope (compEnvC scope cl C X.env) fp) (fun _ _ _ _ => False) elt ce) (hs : ∀ x, foldedSetIterable iter X.env x = pure x := by intro _; rfl) :
    SS X W (.Assign [.Name y py] (.ListComp elt [⟨tg, iter, ifs, 0⟩] scope pos) spos) (sSetF i (mComp (own.map (·.2)) gs ct ce ci)) := by
  obtain ⟨wi, pi, si⟩ := slc (own := own) (gs := gs) (ct := ct) (ce := ce) hi hts
  refine ⟨_, ps_setLc (g := gOf X.K gs ts) (tt := ttOf X.K (fun _ _ _ _ => False) ct) (te := tOf X.K (fun _ _ _ _ => False) ce) hc hN hy hyl hsw pi ok (fun s H C cl fp => pg_of (hg s H C cl fp)) (fun s H C cl fp => ht s H C cl fp) (fun s H C cl fp => pe_of (he s H C cl fp)) hs, fun σ ev I H En rel h => ?_⟩
  refine si σ ev I H _ rel ?_
  have h0 := h
  unfold PostS sSetF sE at h
  unfold Post
  cases q : mComp (own.map (·.2)) gs ct ce ci ev with
  | none => rw [q] at h; exact h
  | some o =>
    rw [q] at h
    cases o with
    | er x ev' => exact fun I' H' dd s r xd => h σ I' H' dd s r xd
    | ok c ev1 =>
      intro I1 H1 s1 r1 p h2 h3 h4 h5
      simp only at h
      cases e : setO i c ev1 with
      | none => rw [e] at h; exact h.elim
      | some ev2 =>
        rw [e] at h
        obtain ⟨s2, r2⟩ := set_cell s1 r1 e h2 h3 h4 h5
        exact h _ _ _ s2 r2
end
end FL
set_option Elab.async false
set_option linter.all false
set_option maxRecDepth 100000
namespace FL
open PySem
open PySem.Spec
open L2
def fld (n : String) : List String → List D → Option D
  | k :: ks, d :: ds => if k = n then some d else fld n ks ds
  | _, _ => none
def has (n : String) : List String → Bool
  | [] => false
  | k :: ks => if k = n then true else has n ks
theorem lookup_cons' (f g : Str) (y : V) (fs : List (Str × V)) : ((f, y) :: fs).lookup g = if f = g then some y else fs.lookup g := by
  by_cases h : f = g
  · subst h
    simp [List.lookup]
  · have e : (g == f) = false := by simpa using fun z => h z.symm
    rw [if_neg h]
    simp [List.lookup, e]
theorem fld_ok {K : PySem.W.Frag} {I : Hp} {n : String} : ∀ {ks : List String} {fs : List D} {vs : List V} {d : D}, Rs K I fs vs → fld n ks fs = some d → ∃ v, ((nms ks).zip vs).lookup (Str.ofString n) = some v ∧ R K I d v
  | [], fs, vs, d, _, e => by unfold fld at e; cases e
  | k :: ks, [], vs, d, _, e => by unfold fld at e; cases e
  | k :: ks, x :: fs, vs, d, r, e => by
    obtain ⟨v, w, rfl, h1, h2⟩ := Rs_cons.mp r
    unfold fld at e
    show ∃ u, ((Str.ofString k, v) :: (nms ks).zip w).lookup (Str.ofString n) = some u ∧ _
    rw [lookup_cons']
    by_cases h : k = n
    · subst h
      rw [if_pos rfl] at e ⊢
      cases e
      exact ⟨v, rfl, h1⟩
    · rw [if_neg h] at e
      rw [if_neg fun z => h (ofString_inj.mp z)]
      exact fld_ok h2 e
theorem has_no {n : String} : ∀ {ks : List String} {vs : List V}, has n ks = false → ((nms ks).zip vs).lookup (Str.ofString n) = none
  | [], vs, _ => rfl
  | k :: ks, [], _ => rfl
  | k :: ks, v :: vs, e => by
    unfold has at e
    show ((Str.ofString k, v) :: (nms ks).zip vs).lookup (Str.ofString n) = none
    rw [lookup_cons']
    by_cases h : k = n
    · rw [if_pos h] at e
      cases e
    · rw [if_neg h] at e
      rw [if_neg fun z => h (ofString_inj.mp z)]
      exact has_no e
abbrev Arg (α : Type) := Sum Nat α
def arr {α : Type} (z : α) (pm : List (Arg α)) (l : List α) : List α := pm.map fun q => match q with
  | .inl i => l.getD i z
  | .inr a => a
def SumR {α β : Type} (F : α → β → Prop) : Arg α → Arg β → Prop
  | .inl i, .inl j => i = j
  | .inr a, .inr b => F a b
  | _, _ => False
theorem arr_rel {α β : Type} {F : α → β → Prop} {z : α} {z' : β} (hz : F z z') {l : List α} {l' : List β} (p : Paired F l l') : ∀ {pm : List (Arg α)} {pm' : List (Arg β)}, Paired (SumR F) pm pm' → Paired F (arr z pm l) (arr z' pm' l')
  | _, _, .nil => .nil
  | _, _, .cons (a := a) (b := b) r t => by
    refine .cons ?_ (arr_rel hz p t)
    cases a with
    | inl i =>
      cases b with
      | inl j =>
        have e : i = j := r
        subst e
        show F (l.getD i z) (l'.getD i z')
        rw [List.getD_eq_getElem?_getD, List.getD_eq_getElem?_getD]
        cases q : l[i]? with
        | some x =>
          obtain ⟨y, h1, h2⟩ := Paired.get' p q
          rw [h1]
          exact h2
        | none =>
          have : l'[i]? = none := by
            rw [List.getElem?_eq_none_iff, ← Paired.len' p]
            exact List.getElem?_eq_none_iff.mp q
          rw [this]
          exact hz
      | inr b => exact r.elim
    | inr a =>
      cases b with
      | inl j => exact r.elim
      | inr b => exact r
def arrA (dpm : List (Arg D)) (l : List AR) : List AR := arr (.d .non) (dpm.map fun q => match q with
  | .inl i => .inl i
  | .inr d => .inr (.d d)) l
/-- how n values and the keywords ks are bound: as pm says -/
def Bd (K : PySem.W.Frag) (fd : FuncData) (ps : List Str) (n : Nat) (ks : List Str) (pm : List (Arg V)) : Prop :=
  ∀ (s : Shared) (us ws : List Value) (vs : List V), K.In s.heap → Vals vs (us ++ ws) → us.length = n → ws.length = ks.length → ∃ us' : List Value, BindsTo s fd ⟨us, ks.zip ws⟩ (ps.zip us') ∧ Vals (arr .non pm vs) us'
theorem Paired.take' {α β : Type} {F : α → β → Prop} : ∀ {l : List α} {m m' : List β}, Paired F l (m ++ m') → ∃ a b, l = a ++ b ∧ Paired F a m ∧ Paired F b m'
  | l, [], m', h => ⟨[], l, rfl, .nil, h⟩
  | _, x :: m, m', .cons r t => by
    obtain ⟨a, b, e, h1, h2⟩ := Paired.take' t
    exact ⟨_ :: a, b, by rw [e]; rfl, .cons r h1, h2⟩
theorem Bd.of_kbn {K : PySem.W.Frag} {fd : FuncData} {ps : List Str} {n : Nat} {ks : List Str} {g : List Value → List Value → List Value} {gV : List V → List V → List V} {pm : List (Arg V)} (h : KBn K fd ps n ks g gV) (e : ∀ vs zs : List V, vs.length = n → zs.length = ks.length → gV vs zs = arr .non pm (vs ++ zs)) : Bd K fd ps n ks pm :=
  fun s us ws vs X r l1 l2 => by
    obtain ⟨a, b, rfl, h1, h2⟩ := Paired.take' r
    refine ⟨g us ws, h.to s us ws X l1 l2, ?_⟩
    rw [← e a b ((Paired.len' h1).trans l1) ((Paired.len' h2).trans l2)]
    exact h.rel h1 h2
theorem Paired.app' {α β : Type} {F : α → β → Prop} : ∀ {l : List α} {m : List β} {l' : List α} {m' : List β}, Paired F l m → Paired F l' m' → Paired F (l ++ l') (m ++ m')
  | _, _, _, _, .nil, q => q
  | _, _, _, _, .cons r t, q => .cons r (Paired.app' t q)
theorem Bd.of_binds {K : PySem.W.Frag} {fd : FuncData} {ps : List Str} {n : Nat} {dvs : List V} {ds : List Value} {pm : List (Arg V)} (h : Binds K fd ps ds) (hd : Vals dvs ds) (hn : n + dvs.length = ps.length) (e : ∀ vs : List V, vs.length = n → vs ++ dvs = arr .non pm vs) : Bd K fd ps n [] pm :=
  fun s us ws vs X r l1 l2 => by
    have : ws = [] := List.length_eq_zero_iff.mp l2
    subst this
    rw [List.append_nil] at r
    refine ⟨us ++ ds, h s us X (by rw [List.length_append, l1, ← Paired.len' hd]; exact hn), ?_⟩
    rw [← e vs ((Paired.len' r).trans l1)]
    exact Paired.app' r hd
/-- a way to call the def at f: n values, keywords ks -/
def Site (P : Program) (w : World) (K : PySem.W.Frag) (mg : Str → Option Value) (base : Heap) (f : Addr) (k n : Nat) (ks : List Str) (m : FM) (dpm : List (Arg D)) : Prop :=
  ∃ (fd : FuncData) (ps : List Str) (pm : List (Arg V)), FnOk P w K mg base (L2.CX P w) k f fd ps (spF K m) ∧ Bd K fd ps n ks pm ∧ Paired (SumR (R K fun _ => none)) dpm pm
theorem Site.mono {P : Program} {w : World} {K : PySem.W.Frag} {mg : Str → Option Value} {base : Heap} {f : Addr} {j k n : Nat} {ks : List Str} {m : FM} {dpm : List (Arg D)} (h : Site P w K mg base f j n ks m dpm) (hk : j ≤ k) : Site P w K mg base f k n ks m dpm := by
  obtain ⟨fd, ps, pm, h1, h2⟩ := h
  exact ⟨fd, ps, pm, h1.mono hk, h2⟩
theorem ArV_arr {K : PySem.W.Frag} {I : Hp} {σ : St} : ∀ {dpm : List (Arg D)} {pm : List (Arg V)}, Paired (SumR (R K fun _ => none)) dpm pm → Paired (SumR (ArV K I σ)) (dpm.map fun q => match q with
  | .inl i => .inl i
  | .inr d => .inr (.d d)) pm
  | _, _, .nil => .nil
  | _, _, .cons (a := a) (b := b) r t => by
    refine .cons ?_ (ArV_arr t)
    cases a with
    | inl i =>
      cases b with
      | inl j => exact r
      | inr b => exact r.elim
    | inr a =>
      cases b with
      | inl j => exact r.elim
      | inr b => exact R.mono (fun _ _ z => by cases z) _ _ r
structure CArg (X : Cx) (pos : Pos) (es : List Expr) (kws : List Keyword) (n : Nat) (ks : List Str) (t : TA) : Prop where
  run : ∀ (f : Value) (first : List Value) (pins : List (Addr × Obj)) (s : Shared) (σ : St) (H : Hp) (Q : List V → Hp → Prop) (Z : Value → Shared → Prop), PySem.W.keepIn X.K f = true → Inv X pins σ H s → t σ H (fun vs H' => vs.length = n + ks.length ∧ Q vs H') →
    (∀ (us ws : List Value) (vs : List V) (s' : Shared) (H' : Hp), Inv X pins σ H' s' → Vals vs (us ++ ws) → us.length = n → ws.length = ks.length → Q vs H' → wpAny (model X.prog X.w) X.A (call f (first ++ us) (ks.zip ws)) Z X.xe s') →
    wpAny (model X.prog X.w) X.A (callWith pos f first (backTo pos (starEach es X.env)) (backToKw pos (keywordEach kws X.env))) Z X.xe s
def SC (X : Cx) (W : WX) (pos : Pos) (es : List Expr) (kws : List Keyword) (n : Nat) (ks : List Str) (c : M (List AR)) : Prop := ∃ t, CArg X pos es kws n ks t ∧ SimR X.K W t c
def SK (X : Cx) (W : WX) (kws : List Keyword) (c : M (List AR)) : Prop := ∃ t, PK X kws t ∧ SimR X.K W t c
section
variable {X : Cx} {W : WX} {e : Expr} {es : List Expr} {kws : List Keyword} {pos : Pos} {nm : Option Str} {kpos : Pos}
theorem sk_nil : SK X W [] rNil := ⟨_, pk_nil, fun σ ev I H Q rel h => Post.ret rel h _ .nil⟩
theorem sk_cons {ca : M D} {cr : M (List AR)} (ha : SE X W e ca) (hr : SK X W kws cr) : SK X W (⟨nm, e, kpos⟩ :: kws) (rCons ca cr) := by
  obtain ⟨ta, pa, sa⟩ := ha
  obtain ⟨tr, pr, sr⟩ := hr
  refine ⟨_, pk_cons pa pr, fun σ ev I H Q rel h => ?_⟩
  refine sa σ ev I H _ rel ((Post.bind h).imp fun x ev1 I1 H1 s1 r1 h1 vx rx => ?_)
  refine sr σ ev1 I1 H1 _ r1 ((Post.bind h1).imp fun xs ev2 I2 H2 s2 r2 h2 vs rs => ?_)
  exact Post.ret r2 h2 _ (.cons (show ArV X.K I2 σ (.d x) vx from R.mono s2.le _ _ rx) rs)
theorem sc_nil : SC X W pos [] [] 0 [] rNil := ⟨tNil, ⟨fun f first pins s σ H Q Z hk I h k => PySem.W.callWith_K0 I.kIn hk (k [] [] [] s H I .nil rfl rfl h.2)⟩, fun σ ev I H Q rel h => Post.ret rel h _ .nil⟩
theorem sc_pos {ca : M (List AR)} (n : Nat) (ha : SR X W (e :: es) ca) (he : starEach (e :: es) X.env = (false, eval e X.env) :: starEach es X.env := by rfl) (hpl : (backTo pos (starEach es X.env)).any (·.1) = false := by rfl) : SC X W pos (e :: es) [] n [] ca := by
  obtain ⟨t, pa, sa⟩ := ha
  refine ⟨t, ⟨fun f first pins s σ H Q Z hk I h k => ?_⟩, sa⟩
  refine PySem.W.callWith_K (h₀ := X.base) I.ok.mod.kin hk (thn (pa.run pos pins s σ H _ I h) fun us s1 ⟨vs, H1, I1, r, l, q⟩ => ⟨I1.kIn, ?_⟩) he hpl
  exact k us [] vs s1 H1 I1 (by rw [List.append_nil]; exact r) (r.length.symm.trans l) rfl q
theorem sc_kw0 {ck : M (List AR)} {ks : List Str} (hk : SK X W kws ck) (hall : (backToKw pos (keywordEach kws X.env)).all (·.1.isSome) = true := by rfl) (hks : (backToKw pos (keywordEach kws X.env)).filterMap (·.1) = ks := by rfl)
    (hpl : ((backTo pos (starEach [] X.env)).any (·.1) || (backToKw pos (keywordEach kws X.env)).any (·.1.isNone)) = false := by rfl) : SC X W pos [] kws 0 ks ck := by
  obtain ⟨t, pk, sk⟩ := hk
  refine ⟨t, ⟨fun f first pins s σ H Q Z hk I h k => ?_⟩, sk⟩
  refine PySem.W.callWith_KW0 (h₀ := X.base) I.ok.mod.kin hk hall ?_ hpl
  refine thn (pk.run pos pins s σ H _ I h) fun ws s2 ⟨zs, H2, I2, rz, l, q2⟩ => ⟨I2.kIn, ?_⟩
  rw [hks]
  exact k [] ws zs s2 H2 I2 rz rfl (by rw [← rz.length, l, Nat.zero_add]) q2
def tApp (t tk : TA) (n : Nat) : TA := fun σ H Q => t σ H fun vs H1 => vs.length = n ∧ tk σ H1 fun zs H2 => Q (vs ++ zs) H2
def rApp (n : Nat) (ca ck : M (List AR)) : M (List AR) := ca.bind fun as => fun ev => if as.length = n then (ck.bind fun bs => M.ret (as ++ bs)) ev else none
theorem Paired.imp' {α β : Type} {F G : α → β → Prop} (h : ∀ a b, F a b → G a b) : ∀ {l : List α} {m : List β}, Paired F l m → Paired G l m
  | _, _, .nil => .nil
  | _, _, .cons r t => .cons (h _ _ r) (Paired.imp' h t)
theorem sc_kw {ca ck : M (List AR)} {ks : List Str} (n : Nat) (ha : SR X W (e :: es) ca) (hk : SK X W kws ck) (hall : (backToKw pos (keywordEach kws X.env)).all (·.1.isSome) = true := by rfl) (hks : (backToKw pos (keywordEach kws X.env)).filterMap (·.1) = ks := by rfl)
    (he : starEach (e :: es) X.env = (false, eval e X.env) :: starEach es X.env := by rfl) (hpl : ((backTo pos (starEach (e :: es) X.env)).any (·.1) || (backToKw pos (keywordEach kws X.env)).any (·.1.isNone)) = false := by rfl) : SC X W pos (e :: es) kws n ks (rApp n ca ck) := by
  obtain ⟨t, pa, sa⟩ := ha
  obtain ⟨tk, pk, sk⟩ := hk
  refine ⟨tApp t tk n, ⟨fun f first pins s σ H Q Z hk I h k => ?_⟩, fun σ ev I H Q rel h => ?_⟩
  · refine PySem.W.callWith_KW (h₀ := X.base) I.ok.mod.kin hk hall (thn (pa.run pos pins s σ H _ I h) fun us s1 ⟨vs, H1, I1, r, l, q⟩ => ?_) hpl he
    refine thn (pk.run pos pins s1 σ H1 _ I1 q) fun ws s2 ⟨zs, H2, I2, rz, l2, q2⟩ => ⟨I2.kIn, ?_⟩
    rw [hks]
    refine k us ws _ s2 H2 I2 (r.append rz) (r.length.symm.trans l) ?_ q2
    rw [← rz.length]
    rw [List.length_append, l] at l2
    omega
  · refine sa σ ev I H _ rel ((Post.bind h).imp fun as ev1 I1 H1 s1 r1 h1 vs pv => ?_)
    have l := Paired.len' pv
    by_cases e : as.length = n
    · refine ⟨by rw [← l, e], ?_⟩
      unfold Post at h1
      simp only [e, if_true] at h1
      refine sk σ ev1 I1 H1 _ r1 ((Post.bind (show Post X.K W (ck.bind fun bs => M.ret (as ++ bs)) σ ev1 I1 H1 _ from h1)).imp fun bs ev2 I2 H2 s2 r2 h2 zs pz => ?_)
      exact Post.ret r2 h2 _ (Paired.app' (Paired.imp' (fun a b q => ArV.mono s2.le q) pv) pz)
    · unfold Post at h1
      simp only [e, if_false] at h1
end
section
variable {X : Cx} {W : WX} {e : Expr} {es : List Expr} {pos p : Pos} {k n : Nat} {f : Addr} {ks : List Str} {m : FM} {dpm : List (Arg D)}
theorem run_site {pins : List (Addr × Obj)} {σ : St} {H : Hp} {s : Shared} {Q : VK} {E : St → XK} {us ws : List Value} {vs : List V} {fd : FuncData} {ps : List Str} {pm : List (Arg V)} {sp : Sp} (F : FnOk X.prog X.w X.K X.mg X.base (L2.CX X.prog X.w) k f fd ps sp)
    (hb : Bd X.K fd ps n ks pm) (hr : Room k X.A) (hx : PassesAt (L2.CX X.prog X.w) X σ (E σ))
    (I : Inv X pins σ H s) (r : Vals vs (us ++ ws)) (l1 : us.length = n) (l2 : ws.length = ks.length) (h : sp (arr .non pm vs) H Q (E σ)) : wpAny (model X.prog X.w) X.A (call (.ref f) us (ks.zip ws)) (EP X pins σ Q) X.xe s := by
  obtain ⟨us', b2, r2⟩ := hb s us ws vs I.kIn r l1 l2
  refine wpAny_call (codeAny_mono (F.run X.A X.stack s H ⟨us, ks.zip ws⟩ _ _ Q (E σ) hr I.env0 b2 r2 h) fun r s' hq => ?_)
  cases r with
  | error er => exact hx pins H s er s' I hq
  | ok fl =>
    cases fl with
    | ret u => exact I.after hq
    | next => exact False.elim hq
    | brk => exact False.elim hq
    | cont => exact False.elim hq
def tSite (n : Nat) (sp : Sp) (pm : List (Arg V)) (E : St → XK) (t : TA) : TE := fun σ H Q => t σ H fun vs H1 => vs.length = n ∧ sp (arr .non pm vs) H1 Q (E σ)
/-- a call of a site -/
def callS {α : Type} (f : RV → Option α) (m : FM) (dpm : List (Arg D)) (n : Nat) (ars : List AR) : M α := fun ev => if ars.length = n then callM f m [] (arrA dpm ars) ev else none
theorem callS_post {α : Type} {K : PySem.W.Frag} {g : RV → Option α} {ars : List AR} {σ : St} {ev : Ev} {I H : Hp} {G : α → Ev → Hp → Hp → Prop} (h : Post K W (callS g m dpm n ars) σ ev I H G) : ars.length = n ∧ Post K W (callM g m [] (arrA dpm ars)) σ ev I H G := by
  by_cases e : ars.length = n
  · unfold Post callS at h
    simp only [e, if_true] at h
    exact ⟨e, h⟩
  · unfold Post callS at h
    simp only [e, if_false] at h
theorem site_data {K : PySem.W.Frag} {ars : List AR} {vs : List V} {σ : St} {ev : Ev} {I H : Hp} {Q : VK} {pm : List (Arg V)} (hd : Paired (SumR (R K fun _ => none)) dpm pm) (r : Rel K σ ev I H) (h : Post K W (callM (fun r => some (rvD r)) m [] (arrA dpm ars)) σ ev I H (RG K Q))
    (p : Paired (ArV K I σ) ars vs) : spF K m (arr .non pm vs) H Q (WE W σ) := by
  have := sp_data r h (arr_rel (F := ArV K I σ) (z := AR.d .non) (z' := V.non) (show R K I .non .non from R_non.mpr rfl) p (ArV_arr hd)) (Rs_nil.mpr rfl)
  rw [List.append_nil] at this
  exact this
theorem callF_fresh {K : PySem.W.Frag} {dds : List D} {dvs : List V} {ars : List AR} {vs : List V} {σ : St} {ev : Ev} {I H H0 : Hp} {Q : VK} (r : Rel K σ ev I H) (h0 : ∀ p, H p = none → H0 p = none) (h : Post K W (callM frC m dds ars) σ ev I H (RF K σ H0 Q))
    (p : Paired (ArV K I σ) ars vs) (rd : Rs K (fun _ => none) dds dvs) : spF K m (vs ++ dvs) H Q (WE W σ) :=
  sp_of r h p rd fun rv a ev' I' H' v ef ke s r' g rvv => by
    cases rv with
    | d d => cases ef
    | fr c =>
      cases ef
      obtain ⟨q, rfl, hn, h2, h3⟩ := rvv
      exact g I' s r' q (h0 q hn) h2 (fun w => r.own_there (ke.own w) hn) h3
theorem site_fresh {K : PySem.W.Frag} {ars : List AR} {vs : List V} {σ : St} {ev : Ev} {I H H0 : Hp} {Q : VK} {pm : List (Arg V)} (hd : Paired (SumR (R K fun _ => none)) dpm pm) (r : Rel K σ ev I H) (h0 : ∀ p, H p = none → H0 p = none) (h : Post K W (callM frC m [] (arrA dpm ars)) σ ev I H (RF K σ H0 Q))
    (p : Paired (ArV K I σ) ars vs) : spF K m (arr .non pm vs) H Q (WE W σ) := by
  have := callF_fresh r h0 h (arr_rel (F := ArV K I σ) (z := AR.d .non) (z' := V.non) (show R K I .non .non from R_non.mpr rfl) p (ArV_arr hd)) (Rs_nil.mpr rfl)
  rw [List.append_nil] at this
  exact this
theorem pe_site {x : String} {kws : List Keyword} {t : TA} {fd : FuncData} {ps : List Str} {pm : List (Arg V)} {sp : Sp} (F : FnOk X.prog X.w X.K X.mg X.base (L2.CX X.prog X.w) k f fd ps sp)
    (hb : Bd X.K fd ps n ks pm) (hm : X.mg (Str.ofString x) = some (.ref f)) (hkp : PySem.W.keepIn X.K (.ref f) = true) (hr : Room k X.A) (tk : Takes X W) (hg : Gl X (Str.ofString x))
    (ha : CArg X pos es kws n ks t) (hdb : (Str.ofString x == ("__debug__" : Str)) = false) : PE X (.Call (.Name (Str.ofString x) p) es kws pos) (tSite (n + ks.length) sp pm (WE W) t) := by
  refine ⟨fun pins s σ H Q I hw => wpAny_Call_Name_kw (ld_glob I hg hm ?_ hdb)⟩
  have h := hw
  refine ha.run (.ref f) [] pins _ σ H _ _ hkp I h fun us ws vs s' H' I' r l1 l2 q => ?_
  exact run_site F hb hr (passAt tk σ) I' r l1 l2 q
theorem se_site {x : String} {kws : List Keyword} {ca : M (List AR)} (F : Site X.prog X.w X.K X.mg X.base f k n ks m dpm) (hm : X.mg (Str.ofString x) = some (.ref f)) (hkp : PySem.W.keepIn X.K (.ref f) = true) (hr : Room k X.A) (tk : Takes X W) (hg : Gl X (Str.ofString x)) (ha : SC X W pos es kws n ks ca)
    (hdb : (Str.ofString x == ("__debug__" : Str)) = false := by decide +kernel) : SE X W (.Call (.Name (Str.ofString x) p) es kws pos) (ca.bind fun ars => callS (fun r => some (rvD r)) m dpm (n + ks.length) ars) := by
  obtain ⟨fd, ps, pm, hF, hb, hd⟩ := F
  obtain ⟨t, pa, sa⟩ := ha
  refine ⟨_, pe_site hF hb hm hkp hr tk hg pa hdb, fun σ ev I H Q rel h => ?_⟩
  refine sa σ ev I H _ rel ((Post.bind h).imp fun ars ev1 I1 H1 s1 r1 h1 vs pv => ?_)
  obtain ⟨l, h2⟩ := callS_post h1
  exact ⟨by rw [← Paired.len' pv, l], site_data hd r1 h2 pv⟩
theorem sef_site {x : String} {kws : List Keyword} {ca : M (List AR)} (F : Site X.prog X.w X.K X.mg X.base f k n ks m dpm) (hm : X.mg (Str.ofString x) = some (.ref f)) (hkp : PySem.W.keepIn X.K (.ref f) = true) (hr : Room k X.A) (tk : Takes X W) (hg : Gl X (Str.ofString x)) (ha : SC X W pos es kws n ks ca)
    (hdb : (Str.ofString x == ("__debug__" : Str)) = false := by decide +kernel) : SEF X W (.Call (.Name (Str.ofString x) p) es kws pos) (ca.bind fun ars => callS frC m dpm (n + ks.length) ars) := by
  obtain ⟨fd, ps, pm, hF, hb, hd⟩ := F
  obtain ⟨t, pa, sa⟩ := ha
  refine ⟨_, pe_site hF hb hm hkp hr tk hg pa hdb, fun σ ev I H Q rel h => ?_⟩
  refine sa σ ev I H _ rel ((Post.bind h).imp fun ars ev1 I1 H1 s1 r1 h1 vs pv => ?_)
  obtain ⟨l, h2⟩ := callS_post h1
  refine ⟨by rw [← Paired.len' pv, l], site_fresh hd r1 (fun q z => ?_) h2 pv⟩
  exact Classical.byContradiction fun hn => s1.there q hn z
end
end FL
set_option Elab.async false
set_option linter.all false
set_option maxRecDepth 100000
namespace FL
open PySem
open PySem.Spec
open L2
def SO (X : Cx) (W : WX) (e : Expr) (c : M AR) : Prop := ∃ t, PE X e t ∧ ∀ (σ : St) (ev : Ev) (I H : Hp) (Q : VK), Rel X.K σ ev I H → Post X.K W c σ ev I H (fun a _ I' H' => ∀ v, ArV X.K I' σ a v → Q v H') → t σ H Q
def mOd (c : M D) : M AR := c.bind fun d => M.ret (.d d)
section
variable {X : Cx} {W : WX} {e : Expr} {pos : Pos}
theorem so_d {c : M D} (h : SE X W e c) : SO X W e (mOd c) := by
  obtain ⟨t, p, s⟩ := h
  exact ⟨t, p, fun σ ev I H Q rel h => s σ ev I H Q rel ((Post.bind h).imp fun d ev1 I1 H1 s1 r1 h1 v rv => Post.ret r1 h1 v rv)⟩
theorem so_var (i : Nat) {x : Str} {p : Pos} (hN : X.N[i]? = some x) (hv : Vis X.env.scope x) (hd : (x == ("__debug__" : Str)) = false := by decide +kernel) (hcd : (x == ("__classdict__" : Str)) = false := by decide +kernel) : SO X W (.Name x p) (mArV i) :=
  ⟨_, pe_var hN hv hd hcd, fun σ ev I H Q rel h => sim_arv i rel h⟩
end
/-- the instance that a receiver is: its class, its fields -/
def insAt (ev : Ev) (a : AR) : Option (String × List String × List D) := match arSV ev a with
  | some (.d (.ins C ks fs)) => some (C, ks, fs)
  | some (.bor (.ins C ks fs)) => some (C, ks, fs)
  | _ => none
theorem insAt_ok {K : PySem.W.Frag} {σ : St} {ev : Ev} {I H : Hp} {a : AR} {v : V} {C : String} {ks : List String} {fs : List D} (r : Rel K σ ev I H) (e : insAt ev a = some (C, ks, fs)) (h : ArV K I σ a v) :
    ∃ p dx vs, v = .ref p ∧ H p = some (.ins (cad K C) dx ((nms ks).zip vs)) ∧ ks.length = vs.length ∧ Rs K I fs vs := by
  unfold insAt at e
  cases a with
  | d d =>
    simp only [arSV] at e
    cases d with
    | ins C' ks' fs' =>
      cases e
      obtain ⟨p, dx, vs, e1, e2, e3, e4⟩ := R_ins.mp h
      exact ⟨p, dx, vs, e1, r.sub _ _ e2, e3, e4⟩
    | _ => cases e
  | sl i =>
    have hv : σ[i]? = some (some v) := h
    have key : ∀ s c, ev[i]? = some (some s) → s.isCell = true → (s = .own c ∨ s = .bor c) → c = .ins C ks fs → ∃ p dx vs, v = .ref p ∧ H p = some (.ins (cad K C) dx ((nms ks).zip vs)) ∧ ks.length = vs.length ∧ Rs K I fs vs := fun s c h1 h2 h3 h4 => by
      obtain ⟨p, c', e1, e2, e3, e4⟩ := r.cell h1 h2
      have : c' = c := by
        rcases h3 with rfl | rfl <;> rcases e4 with e4 | e4 <;> cases e4 <;> rfl
      subst this
      subst h4
      rw [hv] at e1
      cases e1
      obtain ⟨dx, vs, e5, e6, e7⟩ := e3
      exact ⟨p, dx, vs, rfl, e5, e6, e7⟩
    cases q : ev[i]? with
    | none => simp only [arSV, q] at e; cases e
    | some o =>
      cases o with
      | none => simp only [arSV, q] at e; cases e
      | some s =>
        cases s with
        | d d => simp only [arSV, q] at e; cases e
        | own c =>
          simp only [arSV, q] at e
          cases c with
          | lst xs => cases e
          | ins C' ks' fs' => cases e; exact key _ _ q rfl (.inl rfl) rfl
        | bor c =>
          simp only [arSV, q] at e
          cases c with
          | lst xs => cases e
          | ins C' ks' fs' => cases e; exact key _ _ q rfl (.inr rfl) rfl
/-- a row of a method's table: the class, the mirror, how the arguments are laid, its level -/
structure MRow where
  C : String
  m : FM
  dpm : List (Arg D)
def MSite (P : Program) (w : World) (K : PySem.W.Frag) (mg : Str → Option Value) (base : Heap) (name : String) (k n : Nat) (ks : List Str) (r : MRow) : Prop :=
  ∃ f : Addr, Cls K (cad K r.C) ∧ Meth K (cad K r.C) (Str.ofString name) f ∧ Site P w K mg base f k (n + 1) ks r.m r.dpm
def lkR (C : String) : List MRow → Option MRow
  | [] => none
  | r :: t => if r.C = C then some r else lkR C t
theorem lkR_mem {C : String} : ∀ {t : List MRow} {r : MRow}, lkR C t = some r → r ∈ t ∧ r.C = C
  | [], r, h => by cases h
  | x :: t, r, h => by
    unfold lkR at h
    split at h
    · rename_i q
      cases h
      exact ⟨List.mem_cons_self .., q⟩
    · exact ⟨List.mem_cons_of_mem _ (lkR_mem h).1, (lkR_mem h).2⟩
def rowAt (name : String) (t : List MRow) (o : AR) : M MRow := fun ev => match insAt ev o with
  | some (C, ks, _) => if has name ks then none else (lkR C t).map fun r => .ok r ev
  | none => none
/-- o.m(..) -/
def mMeth {α : Type} (g : RV → Option α) (name : String) (tb : List MRow) (n : Nat) (co : M AR) (ca : M (List AR)) : M α := co.bind fun o => (rowAt name tb o).bind fun r => ca.bind fun ars => callS g r.m r.dpm (n + 1) (o :: ars)
def tMethG (K : PySem.W.Frag) (name : Str) (n : Nat) (G : Addr → Addr → List V → Hp → (VK → XK → Prop)) (E : St → XK) (ta : TE) (t : TA) : TE := fun σ H Q => ta σ H fun x H1 => ∃ a C dx fs, x = .ref a ∧ H1 a = some (.ins C dx fs) ∧ fs.lookup name = none ∧
  ∃ f, Cls K C ∧ Meth K C name f ∧ t σ H1 fun vs H2 => vs.length = n ∧ G a f vs H2 Q (E σ)
/-- what is to be known of the callee at f, the receiver a -/
def GoM (X : Cx) (k n : Nat) (ks : List Str) (a f : Addr) (vs : List V) (H : Hp) (Q : VK) (E : XK) : Prop :=
  ∃ (fd : FuncData) (ps : List Str) (pm : List (Arg V)) (sp : Sp), FnOk X.prog X.w X.K X.mg X.base (L2.CX X.prog X.w) k f fd ps sp ∧ Bd X.K fd ps (n + 1) ks pm ∧ sp (arr .non pm (.ref a :: vs)) H Q E
section
variable {X : Cx} {W : WX} {o : Expr} {es : List Expr} {kws : List Keyword} {pos apos : Pos} {k n : Nat} {ks : List Str}
theorem pe_methG {name : Str} {pl : Sem Bool} {ta : TE} {t : TA} (he : PE X o ta) (hr : Room k X.A) (tk : Takes X W) (ha : CArg X pos es kws n ks t)
    (ht : eval (.Call (.Attribute o name apos) es kws pos) X.env = (do
      let ov ← eval o X.env
      standAt apos.atName
      let (fm, first) ← holding [ov] (getMethod ov name pl)
      callWith pos fm first (backTo pos (starEach es X.env)) (backToKw pos (keywordEach kws X.env))) := by rfl) :
    PE X (.Call (.Attribute o name apos) es kws pos) (tMethG X.K name (n + ks.length) (GoM X k n ks) (WE W) ta t) := by
  refine ⟨fun pins s σ H Q I h => PySem.W.methodCall_KW (pl := pl) (thn (he.run pins s σ H _ I h) fun u s1 ⟨x, H1, I1, rx, a, C, dx, fs, ex, ea, l, f, c, hm, q⟩ => ?_) ht⟩
  subst ex
  have eu : u = Value.ref a := rx
  subst eu
  refine (getmeth_ok I1 ea c hm l ?_)
  refine ha.run (.ref f) [.ref a] pins _ σ H1 _ _ hm.kp I1 q fun us ws vs s' H' I' r l1 l2 q' => ?_
  obtain ⟨fd, ps, pm, sp, F, hb, hs⟩ := q'
  exact run_site (us := .ref a :: us) F hb hr (passAt tk σ) I' (.cons (show RelV (V.ref a) (Value.ref a) from rfl) r) (by rw [List.length_cons, l1]) l2 hs
theorem sim_methG {K : PySem.W.Frag} {name : String} {α : Type} {g : RV → Option α} {tb : List MRow} {ta : TE} {t : TA} {co : M AR} {ca : M (List AR)} {G : Addr → Addr → List V → Hp → (VK → XK → Prop)} {nn : Nat} {Q : VK} {U : α → Ev → Hp → Hp → Prop} {σ : St} {ev : Ev} {I H : Hp}
    (so : ∀ (σ : St) (ev : Ev) (I H : Hp) (Q : VK), Rel K σ ev I H → Post K W co σ ev I H (fun a _ I' H' => ∀ v, ArV K I' σ a v → Q v H') → ta σ H Q) (sa : SimR K W t ca)
    (hs : ∀ r ∈ tb, ∃ f, Cls K (cad K r.C) ∧ Meth K (cad K r.C) (Str.ofString name) f ∧ ∀ a ars vs ev' I' H', (∀ p, H' p = none → H p = none) → Rel K σ ev' I' H' → Paired (ArV K I' σ) ars (.ref a :: vs) → Post K W (callM g r.m [] (arrA r.dpm ars)) σ ev' I' H' U → G a f vs H' Q (WE W σ))
    (rel : Rel K σ ev I H) (h : Post K W (mMeth g name tb nn co ca) σ ev I H U) : tMethG K (Str.ofString name) nn G (WE W) ta t σ H Q := by
  refine so σ ev I H _ rel ((Post.bind h).imp fun o ev1 I1 H1 s1 r1 h1 v hv => ?_)
  have h2 := Post.bind h1
  unfold Post rowAt at h2
  cases e : insAt ev1 o with
  | none => rw [e] at h2; exact h2.elim
  | some q =>
    obtain ⟨C, ks, fs⟩ := q
    rw [e] at h2
    simp only at h2
    obtain ⟨p, dx, vs, rfl, e2, e3, e4⟩ := insAt_ok r1 e hv
    cases hk : has name ks with
    | true => rw [hk] at h2; exact h2.elim
    | false =>
      rw [hk] at h2
      simp only [Bool.false_eq_true, if_false] at h2
      cases el : lkR C tb with
      | none => rw [el] at h2; exact h2.elim
      | some r =>
        rw [el] at h2
        obtain ⟨hm, rfl⟩ := lkR_mem el
        have h3 := h2 I1 H1 (Step.refl ..) r1
        obtain ⟨f, c, hme, hgo⟩ := hs r hm
        refine ⟨p, _, dx, _, rfl, e2, has_no hk, f, c, hme, ?_⟩
        refine sa σ ev1 I1 H1 _ r1 ((Post.bind h3).imp fun ars ev2 I2 H2 s2 r2 h4 ws pw => ?_)
        obtain ⟨l, h5⟩ := callS_post h4
        rw [List.length_cons] at l
        refine ⟨by rw [← Paired.len' pw]; omega, hgo p (o :: ars) ws ev2 I2 H2 (fun q z => Classical.byContradiction fun hn => s2.there q (s1.there q hn) z) r2 (.cons (hv.mono s2.le) pw) h5⟩
theorem se_meth {name : String} {pl : Sem Bool} {tb : List MRow} {co : M AR} {ca : M (List AR)} (ho : SO X W o co) (hs : ∀ r ∈ tb, MSite X.prog X.w X.K X.mg X.base name k n ks r) (hr : Room k X.A) (tk : Takes X W) (ha : SC X W pos es kws n ks ca)
    (ht : eval (.Call (.Attribute o (Str.ofString name) apos) es kws pos) X.env = (do
      let ov ← eval o X.env
      standAt apos.atName
      let (f, first) ← holding [ov] (getMethod ov (Str.ofString name) pl)
      callWith pos f first (backTo pos (starEach es X.env)) (backToKw pos (keywordEach kws X.env))) := by rfl) :
    SE X W (.Call (.Attribute o (Str.ofString name) apos) es kws pos) (mMeth (fun r => some (rvD r)) name tb (n + ks.length) co ca) := by
  obtain ⟨ta, pa, sa⟩ := ho
  obtain ⟨t, pt, st⟩ := ha
  refine ⟨_, pe_methG pa hr tk pt ht, fun σ ev I H Q rel h => sim_methG (U := RG X.K Q) sa st (fun r hr => ?_) rel h⟩
  obtain ⟨f, c, hm, fd, ps, pm, F, hb, hd⟩ := hs r hr
  exact ⟨f, c, hm, fun a ars vs ev' I' H' _ r' pv h' => ⟨fd, ps, pm, _, F, hb, site_data hd r' h' pv⟩⟩
theorem sef_meth {name : String} {pl : Sem Bool} {tb : List MRow} {co : M AR} {ca : M (List AR)} (ho : SO X W o co) (hs : ∀ r ∈ tb, MSite X.prog X.w X.K X.mg X.base name k n ks r) (hr : Room k X.A) (tk : Takes X W) (ha : SC X W pos es kws n ks ca)
    (ht : eval (.Call (.Attribute o (Str.ofString name) apos) es kws pos) X.env = (do
      let ov ← eval o X.env
      standAt apos.atName
      let (f, first) ← holding [ov] (getMethod ov (Str.ofString name) pl)
      callWith pos f first (backTo pos (starEach es X.env)) (backToKw pos (keywordEach kws X.env))) := by rfl) :
    SEF X W (.Call (.Attribute o (Str.ofString name) apos) es kws pos) (mMeth frC name tb (n + ks.length) co ca) := by
  obtain ⟨ta, pa, sa⟩ := ho
  obtain ⟨t, pt, st⟩ := ha
  refine ⟨_, pe_methG pa hr tk pt ht, fun σ ev I H Q rel h => sim_methG (U := RF X.K σ H Q) sa st (fun r hr => ?_) rel h⟩
  obtain ⟨f, c, hm, fd, ps, pm, F, hb, hd⟩ := hs r hr
  exact ⟨f, c, hm, fun a ars vs ev' I' H' h0 r' pv h' => ⟨fd, ps, pm, _, F, hb, site_fresh hd r' h0 h' pv⟩⟩
end
section
variable {X : Cx} {W : WX} {o e : Expr} {pos p' : Pos}
/-- the classes whose instances have the field f: own classes of the table -/
structure AtT (K : PySem.W.Frag) (f : String) (cs : List String) : Prop where
  cl : ∀ C ∈ cs, Cls K (cad K C)
  no : ∀ C ∈ cs, NoAttr K (cad K C) (Str.ofString f)
def fldAt (f : String) (cs : List String) (o : AR) : M D := fun ev => match insAt ev o with
  | some (C, ks, fs) => if cs.contains C then (fld f ks fs).map fun d => .ok d ev else none
  | none => none
def mFld (f : String) (cs : List String) (co : M AR) : M D := co.bind fun o => fldAt f cs o
theorem se_fld {f : String} {cs : List String} {co : M AR} (A : AtT X.K f cs) (ho : SO X W o co) (hb : attributeBase o (Str.ofString f) X.env (eval o X.env) = eval o X.env := by rfl) : SE X W (.Attribute o (Str.ofString f) pos) (mFld f cs co) := by
  obtain ⟨ta, pa, sa⟩ := ho
  refine ⟨_, pe_fld pa hb, fun σ ev I H Q rel h => ?_⟩
  refine sa σ ev I H _ rel ((Post.bind h).imp fun o ev1 I1 H1 s1 r1 h1 v hv => ?_)
  unfold Post fldAt at h1
  cases e : insAt ev1 o with
  | none => rw [e] at h1; exact h1.elim
  | some q =>
    obtain ⟨C, ks, fs⟩ := q
    rw [e] at h1
    simp only at h1
    cases hc : cs.contains C with
    | false => rw [hc] at h1; exact h1.elim
    | true =>
      rw [hc] at h1
      simp only [if_true] at h1
      obtain ⟨p, dx, vs, rfl, e2, e3, e4⟩ := insAt_ok r1 e hv
      cases ef : fld f ks fs with
      | none => rw [ef] at h1; exact h1.elim
      | some d =>
        rw [ef] at h1
        obtain ⟨u, l, ru⟩ := fld_ok e4 ef
        have hm : C ∈ cs := by simpa using hc
        exact ⟨p, _, dx, _, u, rfl, e2, A.cl C hm, A.no C hm, l, h1 I1 H1 (Step.refl ..) r1 u ru⟩
/-- a constant of the class, by an instance -/
def conAt (f : String) (tb : List (String × D)) (o : AR) : M D := fun ev => match insAt ev o with
  | some (C, ks, fs) => if has f ks then none else (tb.lookup C).map fun d => .ok d ev
  | none => none
def mCon (f : String) (tb : List (String × D)) (co : M AR) : M D := co.bind fun o => conAt f tb o
theorem lookup_mem {α : Type} {C : String} {d : α} : ∀ {tb : List (String × α)}, tb.lookup C = some d → (C, d) ∈ tb
  | [], h => by cases h
  | (k, x) :: tb, h => by
    by_cases q : k = C
    · subst q
      have : x = d := by simpa [List.lookup] using h
      subst this
      exact List.mem_cons_self ..
    · have e : (C == k) = false := by simpa using fun z => q z.symm
      have : tb.lookup C = some d := by simpa [List.lookup, e] using h
      exact List.mem_cons_of_mem _ (lookup_mem this)
theorem se_con {f : String} {tb : List (String × D)} {co : M AR} (A : ∀ r ∈ tb, Cls X.K (cad X.K r.1) ∧ ∃ u v, Con X.K (cad X.K r.1) (Str.ofString f) v u ∧ R X.K (fun _ => none) r.2 v) (ho : SO X W o co) (hb : attributeBase o (Str.ofString f) X.env (eval o X.env) = eval o X.env := by rfl) : SE X W (.Attribute o (Str.ofString f) pos) (mCon f tb co) := by
  obtain ⟨ta, pa, sa⟩ := ho
  refine ⟨_, pe_con pa hb, fun σ ev I H Q rel h => ?_⟩
  refine sa σ ev I H _ rel ((Post.bind h).imp fun o ev1 I1 H1 s1 r1 h1 v hv => ?_)
  unfold Post conAt at h1
  cases e : insAt ev1 o with
  | none => rw [e] at h1; exact h1.elim
  | some q =>
    obtain ⟨C, ks, fs⟩ := q
    rw [e] at h1
    simp only at h1
    cases hk : has f ks with
    | true => rw [hk] at h1; exact h1.elim
    | false =>
      rw [hk] at h1
      simp only [Bool.false_eq_true, if_false] at h1
      obtain ⟨p, dx, vs, rfl, e2, e3, e4⟩ := insAt_ok r1 e hv
      cases ef : tb.lookup C with
      | none => rw [ef] at h1; exact h1.elim
      | some d =>
        rw [ef] at h1
        obtain ⟨hc, u, w, hcon, rw'⟩ := A _ (lookup_mem ef)
        exact ⟨p, _, dx, _, w, u, rfl, e2, hc, hcon, has_no hk, h1 I1 H1 (Step.refl ..) r1 w (R.mono (fun _ _ z => by cases z) _ _ rw')⟩
end
end FL
set_option Elab.async false
set_option linter.all false
set_option maxRecDepth 100000
namespace FL
open PySem
open PySem.Spec
open L2
def putK (f : String) : List String → List String
  | [] => [f]
  | k :: ks => if k = f then k :: ks else k :: putK f ks
def putD (f : String) (d : D) : List String → List D → List D
  | k :: ks, x :: fs => if k = f then d :: fs else x :: putD f d ks fs
  | _, _ => [d]
theorem put_ok {K : PySem.W.Frag} {I : Hp} {f : String} {d : D} {v : V} (rv : R K I d v) : ∀ {ks : List String} {fs : List D} {vs : List V}, ks.length = vs.length → Rs K I fs vs → ∃ ws, (nms (putK f ks)).zip ws = putF (Str.ofString f) v ((nms ks).zip vs) ∧ (putK f ks).length = ws.length ∧ Rs K I (putD f d ks fs) ws
  | [], fs, vs, n, r => by
    have : vs = [] := List.length_eq_zero_iff.mp n.symm
    subst this
    refine ⟨[v], rfl, rfl, ?_⟩
    have : putD f d [] fs = [d] := by unfold putD; rfl
    rw [this]
    exact Rs_cons.mpr ⟨v, [], rfl, rv, Rs_nil.mpr rfl⟩
  | k :: ks, [], vs, n, r => by
    rw [Rs_nil.mp r] at n
    cases n
  | k :: ks, x :: fs, vs, n, r => by
    obtain ⟨w, l, rfl, h1, h2⟩ := Rs_cons.mp r
    have n' : ks.length = l.length := by simpa using n
    show ∃ ws, (nms (putK f (k :: ks))).zip ws = putF (Str.ofString f) v ((Str.ofString k, w) :: (nms ks).zip l) ∧ _
    unfold putK putD putF
    by_cases h : k = f
    · subst h
      rw [if_pos rfl, if_pos rfl, if_pos rfl]
      exact ⟨v :: l, rfl, by simpa using n', Rs_cons.mpr ⟨v, l, rfl, rv, h2⟩⟩
    · rw [if_neg h, if_neg h, if_neg fun z => h (ofString_inj.mp z)]
      obtain ⟨ws, e1, e2, e3⟩ := put_ok rv n' h2
      refine ⟨w :: ws, ?_, by simpa using e2, Rs_cons.mpr ⟨w, ws, rfl, h1, e3⟩⟩
      show (Str.ofString k, w) :: (nms (putK f ks)).zip ws = _
      rw [e1]
def putAt (i : Nat) (f : String) (cs : List String) (d : D) (ev : Ev) : Option Ev := match ev[i]? with
  | some (some (.own (.ins C ks fs))) => if cs.contains C && decide (ks.length < 1000) then some (ev.set i (some (.own (.ins C (putK f ks) (putD f d ks fs))))) else none
  | some (some (.bor (.ins C ks fs))) => if cs.contains C && decide (ks.length < 1000) then some (ev.set i (some (.bor (.ins C (putK f ks) (putD f d ks fs))))) else none
  | _ => none
def sPut (i : Nat) (f : String) (cs : List String) (ca : M D) : MS := sE ca fun d => sOpt (putAt i f cs d)
section
variable {X : Cx} {W : WX} {o e : Expr} {pos p' : Pos}
theorem ss_put (i : Nat) {x : Str} {f : String} {cs : List String} {ca : M D} {p : Pos} (A : AtT X.K f cs) (hN : X.N[i]? = some x) (hv : Vis X.env.scope x) (ha : SE X W e ca)
    (hs : swapsWith e (some (.Attribute (.Name x p) (Str.ofString f) p')) pos.line X.env = pure false := by rfl) (hd : (x == ("__debug__" : Str)) = false := by decide +kernel) (hcd : (x == ("__classdict__" : Str)) = false := by decide +kernel) :
    SS X W (.Assign [.Attribute (.Name x p) (Str.ofString f) p'] e pos) (sPut i f cs ca) := by
  obtain ⟨ta, pa, sa⟩ := ha
  refine ⟨_, ps_fld (pe_var hN hv hd hcd) pa hs, fun σ ev I H En rel h => ?_⟩
  refine sa σ ev I H _ rel (h.expr.imp fun d ev1 I1 H1 s1 r1 h1 v rv => ?_)
  obtain ⟨ev2, e2, k⟩ := h1.opt
  have go : ∀ (s : SV) (C : String) (ks : List String) (fs : List D), ev1[i]? = some (some s) → (s = .own (.ins C ks fs) ∨ s = .bor (.ins C ks fs)) → C ∈ cs → ks.length < 1000 → ev2 = ev1.set i (some (kindTo s (.ins C (putK f ks) (putD f d ks fs)))) →
      tVar i σ H1 fun x H2 => ∃ a C dx fs, x = .ref a ∧ H2 a = some (.ins C dx fs) ∧ Cls X.K C ∧ NoAttr X.K C (Str.ofString f) ∧ fs.length < 1000 ∧ En.nx σ (upd H2 a (.ins C dx (putF (Str.ofString f) v fs))) := fun s C ks fs e3 e4 e5 e6 e7 => by
    have hcell : s.isCell = true := by rcases e4 with rfl | rfl <;> rfl
    obtain ⟨p, c, g1, g2, g3, g4⟩ := r1.cell e3 hcell
    have hcl : c = .ins C ks fs := by rcases e4 with rfl | rfl <;> rcases g4 with g4 | g4 <;> first | (cases g4; rfl) | cases g4
    subst hcl
    obtain ⟨dx, vs, e8, n, rs⟩ := g3
    obtain ⟨ws, q1, q2, q3⟩ := put_ok (f := f) rv n rs
    refine ⟨.ref p, g1, p, _, dx, _, rfl, e8, A.cl C e5, A.no C e5, ?_, ?_⟩
    · have : ((nms ks).zip vs).length ≤ (nms ks).length := by rw [List.length_zip]; exact Nat.min_le_left ..
      have : (nms ks).length = ks.length := by unfold nms; simp
      omega
    · subst e7
      rw [← q1]
      obtain ⟨s3, r3⟩ := write_cell (c := .ins C (putK f ks) (putD f d ks fs)) (o := .ins (cad X.K C) dx ((nms (putK f ks)).zip ws)) r1 e3 hcell g1 g2 (by rw [e8]; exact fun z => by cases z) ⟨dx, ws, upd_same, q2, q3⟩
      exact k σ I1 _ s3 r3
  unfold putAt at e2
  split at e2
  · rename_i C ks fs e4
    split at e2
    · rename_i hc
      cases e2
      obtain ⟨c1, c2⟩ := and_tt hc
      exact go _ C ks fs e4 (.inl rfl) (by simpa using c1) (of_decide_eq_true c2) rfl
    · cases e2
  · rename_i C ks fs e4
    split at e2
    · rename_i hc
      cases e2
      obtain ⟨c1, c2⟩ := and_tt hc
      exact go _ C ks fs e4 (.inr rfl) (by simpa using c1) (of_decide_eq_true c2) rfl
    · cases e2
  · cases e2
def tMakeG (C : Addr) (n : Nat) (sp : Sp) (pm : List (Arg V)) (E : St → XK) (t : TA) : TE := fun σ H Q => t σ H fun vs H1 => vs.length = n ∧ ∀ x dx, H1 x = none → H1 dx = none → dx ≠ x →
  sp (arr .non pm (.ref x :: vs)) (upd (upd H1 dx (.own x)) x (.ins C dx [])) (fun v H2 => v = .non ∧ Q (.ref x) H2) (E σ)
theorem pe_makeG {x : String} {C f : Addr} {k n : Nat} {ks : List Str} {kws : List Keyword} {es : List Expr} {p : Pos} {t : TA} {fd : FuncData} {ps : List Str} {pm : List (Arg V)} {sp : Sp} (F : FnOk X.prog X.w X.K X.mg X.base (L2.CX X.prog X.w) k f fd ps sp)
    (hb : Bd X.K fd ps (n + 1) ks pm) (M : Mk X.K C f) (hm : X.mg (Str.ofString x) = some (.ref C)) (hr : Room (k + 1) X.A) (tk : Takes X W) (hg : Gl X (Str.ofString x))
    (ha : CArg X pos es kws n ks t) (hdb : (Str.ofString x == ("__debug__" : Str)) = false) : PE X (.Call (.Name (Str.ofString x) p) es kws pos) (tMakeG C (n + ks.length) sp pm (WE W) t) := by
  refine ⟨fun pins s σ H Q I hw => wpAny_Call_Name_kw (ld_glob I hg hm ?_ hdb)⟩
  have h := hw
  refine ha.run (.ref C) [] pins _ σ H _ _ M.kp I h fun us ws vs s H I r l1 l2 q => ?_
  have hq := q (s.heap.objs.size + 1) s.heap.objs.size (I.hok.fresh (Nat.le_succ _)) (I.hok.fresh (Nat.le_refl _)) (Nat.ne_of_lt (Nat.lt_succ_self _))
  have I2 : Inv X _ _ _ _ := Inv.made (C := C) I
  obtain ⟨us', b2, r2⟩ := hb { s with heap := (s.heap.push PySem.W.emptyDict).push (PySem.W.instObj C s.heap.objs.size) } (Value.ref (s.heap.objs.size + 1) :: us) ws (V.ref (s.heap.objs.size + 1) :: vs) I2.kIn (.cons (show RelV (V.ref (s.heap.objs.size + 1)) (Value.ref (s.heap.objs.size + 1)) from rfl) r) (by rw [List.length_cons, l1]) l2
  show wpAny (model X.prog X.w) X.A (call (.ref C) us (ks.zip ws)) (EP X pins σ Q) X.xe s
  refine wpAny_call (make_map (f := f) I.kIn M.makes M.init (beq_iff_eq.mp M.fn) (codeAny_mono (F.run _ X.stack _ _ ⟨Value.ref (s.heap.objs.size + 1) :: us, ks.zip ws⟩ _ _ _ (WE W σ) (hr.make C us (ks.zip ws))
    (I2.env0.make C us (ks.zip ws)) b2 r2 hq) fun r s' hqz => ?_))
  cases r with
  | error e => exact passAt tk σ pins _ _ e s' I2 hqz
  | ok fl =>
    cases fl with
    | ret u =>
      obtain ⟨v, H', I3, rv, ev, q3⟩ := I2.after hqz
      subst ev
      refine ⟨rv, V.ref (s.heap.objs.size + 1), H', I3, rfl, q3⟩
    | next => exact False.elim hqz
    | brk => exact False.elim hqz
    | cont => exact False.elim hqz
def frNon : RV → Option Unit
  | .d .non => some ()
  | _ => none
/-- a new instance for __init__ -/
def makeM (C : String) (m : FM) (dpm : List (Arg D)) (ars : List AR) : M Cell := fun ev => match callM frNon m [] (arrA dpm (.sl ev.length :: ars)) (ev ++ [some (.own (.ins C [] []))]) with
  | none => none
  | some (.er e ev') => some (.er e (ev'.take ev.length))
  | some (.ok _ ev') => match ev'[ev.length]? with
    | some (some (.own c)) => some (.ok c (ev'.take ev.length))
    | _ => none
def mMake (C : String) (m : FM) (dpm : List (Arg D)) (n : Nat) (ca : M (List AR)) : M Cell := ca.bind fun ars => fun ev => if ars.length = n then makeM C m dpm ars ev else none
theorem take_get {α : Type} {l : List α} {n i : Nat} {a : α} (h : (l.take n)[i]? = some a) : i < n ∧ l[i]? = some a := by
  rw [List.getElem?_take] at h
  split at h
  · rename_i hi
    exact ⟨hi, h⟩
  · cases h
theorem app_get {α : Type} {l : List α} {x y : α} {i : Nat} (h : (l ++ [x])[i]? = some y) : (i < l.length ∧ l[i]? = some y) ∨ (i = l.length ∧ y = x) := by
  by_cases hi : i < l.length
  · rw [List.getElem?_append_left hi] at h
    exact .inl ⟨hi, h⟩
  · rw [List.getElem?_append_right (by omega)] at h
    have h0 : i - l.length = 0 := by
      have := (List.getElem?_eq_some_iff.mp h).1
      simp at this
      omega
    rw [h0] at h
    exact .inr ⟨by omega, (by simpa using h.symm)⟩
theorem make_post {K : PySem.W.Frag} {C : String} {m : FM} {dpm : List (Arg D)} {ars : List AR} {vs : List V} {σ : St} {ev : Ev} {I H H0 : Hp} {Q : VK} {pm : List (Arg V)} {x dx : Addr} (hd : Paired (SumR (R K fun _ => none)) dpm pm) (r : Rel K σ ev I H) (hx : H x = none) (hdx : H dx = none) (hne : dx ≠ x)
    (h0 : ∀ p, H p = none → H0 p = none) (h : Post K W (makeM C m dpm ars) σ ev I H (RF K σ H0 Q)) (p : Paired (ArV K I σ) ars vs) :
    spF K m (arr .non pm (.ref x :: vs)) (upd (upd H dx (.own x)) x (.ins (cad K C) dx [])) (fun v H2 => v = .non ∧ Q (.ref x) H2) (WE W σ) := by
  have hI := (r.fresh hx).1
  have hO := (r.fresh hx).2
  have len := r.len
  have keep : ∀ a o, H a = some o → (upd (upd H dx (.own x)) x (.ins (cad K C) dx [])) a = some o := fun a o e => by
    rw [upd_ne (ne_of_none e hx), upd_ne (ne_of_none e hdx)]
    exact e
  have lt : ∀ {i : Nat} {v : Option V}, σ[i]? = some v → i < σ.length := fun {i v} e => (List.getElem?_eq_some_iff.mp e).1
  have sl : ∀ {i : Nat} {v : Option V}, σ[i]? = some v → (σ ++ [some (V.ref x)])[i]? = some v := fun {i v} e => by rw [List.getElem?_append_left (lt e)]; exact e
  have last : (σ ++ [some (V.ref x)])[σ.length]? = some (some (V.ref x)) := by simp
  -- the frame with the new instance
  have rp : Rel K (σ ++ [some (V.ref x)]) (ev ++ [some (.own (.ins C [] []))]) I (upd (upd H dx (.own x)) x (.ins (cad K C) dx [])) := by
    refine ⟨by simp [len], fun a o e => keep a o (r.sub a o e), fun i s e => ?_, fun i j s t a e1 e2 c1 c2 g1 g2 => ?_⟩
    · rcases app_get e with ⟨_, z⟩ | ⟨hi, z⟩
      · obtain ⟨v, h1, h2⟩ := r.slot i s z
        refine ⟨v, sl h1, ?_⟩
        cases s with
        | d d => exact h2
        | own c => obtain ⟨q, e1, e2, e3⟩ := h2; exact ⟨q, e1, e2, e3.mono (Le.refl _) fun o => keep q o⟩
        | bor c => obtain ⟨q, e1, e2, e3⟩ := h2; exact ⟨q, e1, e2, e3.mono (Le.refl _) fun o => keep q o⟩
      · cases z
        exact ⟨.ref x, by rw [hi, len]; exact last, x, rfl, hI, dx, [], upd_same, rfl, Rs_nil.mpr rfl⟩
    · have own : ∀ (i : Nat) (s : SV), (ev ++ [some (.own (.ins C [] []))])[i]? = some (some s) → s.isCell = true → (σ ++ [some (V.ref x)])[i]? = some (some (.ref a)) → (i = ev.length ∧ a = x) ∨ (ev[i]? = some (some s) ∧ σ[i]? = some (some (.ref a))) := fun i s e c g => by
        rcases app_get e with ⟨hi, e⟩ | ⟨rfl, _⟩
        · rw [List.getElem?_append_left (by omega)] at g
          exact .inr ⟨e, g⟩
        · rw [len, last] at g
          cases g
          exact .inl ⟨rfl, rfl⟩
      rcases own i s e1 c1 g1 with ⟨rfl, rfl⟩ | ⟨k1, k2⟩
      · rcases own j t e2 c2 g2 with ⟨rfl, _⟩ | ⟨k3, k4⟩
        · rfl
        · exact absurd ⟨j, t, k3, c2, k4⟩ hO
      · rcases own j t e2 c2 g2 with ⟨rfl, rfl⟩ | ⟨k3, k4⟩
        · exact absurd ⟨i, s, k1, c1, k2⟩ hO
        · exact r.sep i j s t a k1 k3 c1 c2 k2 k4
  -- back
  have back : ∀ ev' I' H', KE (ev ++ [some (.own (.ins C [] []))]) ev' → Step (σ ++ [some (V.ref x)]) (ev ++ [some (.own (.ins C [] []))]) I (upd (upd H dx (.own x)) x (.ins (cad K C) dx [])) (σ ++ [some (V.ref x)]) ev' I' H' → Rel K (σ ++ [some (V.ref x)]) ev' I' H' →
      Step σ ev I H σ (ev'.take ev.length) I' H' ∧ Rel K σ (ev'.take ev.length) I' H' ∧ ¬ Own σ (ev'.take ev.length) x := fun ev' I' H' ke s' r' => by
    have back1 : ∀ a, Own σ (ev'.take ev.length) a → Own σ ev a := fun a ⟨i, t, e, c, g⟩ => by
      obtain ⟨hi, e⟩ := take_get e
      obtain ⟨t', e', c', _⟩ := ke.cell e c
      rcases app_get e' with ⟨_, e'⟩ | ⟨z, _⟩
      · exact ⟨i, t', e', c', g⟩
      · omega
    have back2 : ∀ a, LOwn σ (ev'.take ev.length) a → LOwn σ ev a := fun a ⟨i, t, e, c, g⟩ => by
      obtain ⟨hi, e⟩ := take_get e
      obtain ⟨t', e', c', o'⟩ := ke.cell e (by cases t <;> first | rfl | (cases c))
      rcases app_get e' with ⟨_, e'⟩ | ⟨z, _⟩
      · exact ⟨i, t', e', o'.trans c, g⟩
      · omega
    have fwd1 : ∀ a, Own (σ ++ [some (V.ref x)]) (ev ++ [some (.own (.ins C [] []))]) a → Own σ ev a ∨ a = x := fun a ⟨i, t, e, c, g⟩ => by
      rcases app_get e with ⟨hi, e⟩ | ⟨rfl, _⟩
      · rw [List.getElem?_append_left (by omega)] at g
        exact .inl ⟨i, t, e, c, g⟩
      · rw [len, last] at g
        cases g
        exact .inr rfl
    refine ⟨⟨fun a o e n => ?_, fun a e => ?_, s'.le, fun a e i n => ?_, fun a w => .inl (back1 a w), fun a w => .inl (back2 a w), fun i c e => ?_⟩, ⟨?_, r'.sub, fun i t e => ?_, fun i j t t' a e1 e2 c1 c2 g1 g2 => ?_⟩, fun w => hO (back1 x w)⟩
    · exact s'.keep a o (keep a o e) fun w => (fwd1 a w).elim n fun z => by rw [z, hx] at e; cases e
    · refine s'.there a fun z => ?_
      cases q : H a with
      | none => exact e q
      | some o => rw [keep a o q] at z; cases z
    · refine s'.new a (fun z => ?_) i fun w => ?_
      · cases q : H a with
        | none => exact e q
        | some o => rw [keep a o q] at z; cases z
      · obtain ⟨j, t, e1, c, g⟩ := w
        rcases app_get e1 with ⟨hi, e1⟩ | ⟨rfl, _⟩
        · rw [List.getElem?_append_left (by omega)] at g
          exact n ⟨j, t, e1, c, g⟩
        · rw [len, last] at g
          cases g
          exact e hx
    · have hi := (List.getElem?_eq_some_iff.mp e).1
      obtain ⟨⟨c', h1⟩, _⟩ := s'.bor i c (by rw [List.getElem?_append_left hi]; exact e)
      exact ⟨⟨c', by rw [List.getElem?_take, if_pos hi]; exact h1⟩, rfl⟩
    · have := r'.len
      simp at this ⊢
      omega
    · obtain ⟨hi, e⟩ := take_get e
      obtain ⟨v, h1, h2⟩ := r'.slot i t e
      rw [List.getElem?_append_left (by omega)] at h1
      exact ⟨v, h1, h2⟩
    · obtain ⟨hi, e1⟩ := take_get e1
      obtain ⟨hj, e2⟩ := take_get e2
      exact r'.sep i j t t' a e1 e2 c1 c2 (by rw [List.getElem?_append_left (by omega)]; exact g1) (by rw [List.getElem?_append_left (by omega)]; exact g2)
  have pp : Paired (ArV K I (σ ++ [some (V.ref x)])) (.sl ev.length :: ars) (.ref x :: vs) := .cons (show (σ ++ [some (V.ref x)])[ev.length]? = _ by rw [len]; exact last) (Paired.imp' (fun a b q => by
    cases a with
    | d d => exact q
    | sl i => exact sl q) p)
  have pq := arr_rel (F := ArV K I (σ ++ [some (V.ref x)])) (z := AR.d .non) (z' := V.non) (show R K I .non .non from R_non.mpr rfl) pp (ArV_arr hd)
  have hpost : Post K (fun cls d _ H => W cls d σ H) (callM frNon m [] (arrA dpm (.sl ev.length :: ars))) (σ ++ [some (V.ref x)]) (ev ++ [some (.own (.ins C [] []))]) I (upd (upd H dx (.own x)) x (.ins (cad K C) dx [])) (fun _ ev' I' H' => (∀ v, v = V.non → Q (.ref x) H')) := by
    unfold Post makeM at h
    unfold Post
    cases q : callM frNon m [] (arrA dpm (.sl ev.length :: ars)) (ev ++ [some (.own (.ins C [] []))]) with
    | none => rw [q] at h; exact h
    | some o =>
      have kk : ∀ ev', (∃ z, o = .ok z ev') ∨ (∃ z, o = .er z ev') → KE (ev ++ [some (.own (.ins C [] []))]) ev' := fun ev' hz => by
        unfold callM at q
        split at q
        · cases q
        · split at q
          · split at q
            · cases q
            · obtain ⟨z, q1, q2⟩ := Option.map_eq_some_iff.mp q
              subst q2
              rcases hz with ⟨_, hz⟩ | ⟨_, hz⟩ <;> cases hz
              exact putB_ke ..
            · cases q
              rcases hz with ⟨_, hz⟩ | ⟨_, hz⟩ <;> cases hz
              exact putB_ke ..
          · cases q
      rw [q] at h
      cases o with
      | er z ev' =>
        intro I' H' dd s' r' xd
        obtain ⟨s2, r2, _⟩ := back ev' I' H' (kk ev' (.inr ⟨z, rfl⟩)) s' r'
        exact h I' H' dd s2 r2 xd
      | ok z ev' =>
        intro I' H' s' r' v _
        obtain ⟨s2, r2, no⟩ := back ev' I' H' (kk ev' (.inl ⟨z, rfl⟩)) s' r'
        simp only at h
        cases e : ev'[ev.length]? with
        | none => rw [e] at h; exact h.elim
        | some o =>
          rw [e] at h
          cases o with
          | none => exact h.elim
          | some s =>
            cases s with
            | d d => exact h.elim
            | bor c => exact h.elim
            | own c =>
              obtain ⟨w, g1, q', hw, g2, g3⟩ := r'.slot _ _ e
              rw [len, last] at g1
              cases g1
              cases hw
              exact h I' H' s2 r2 x (h0 x hx) g2 no g3
  have fin := sp_of (dvs := []) (Q := fun v H2 => v = .non ∧ Q (.ref x) H2) rp hpost pq (Rs_nil.mpr rfl) fun rv a ev' I' H' v ef ke s r' g rvv => by
    have hv : v = .non := by
      unfold frNon at ef
      split at ef
      · exact R_non.mp (show R K I' .non v from rvv)
      · cases ef
    exact ⟨hv, g I' s r' v hv⟩
  rw [List.append_nil] at fin
  exact fin
/-- a class that is made with n values and keywords ks -/
def CSite (P : Program) (w : World) (K : PySem.W.Frag) (mg : Str → Option Value) (base : Heap) (C : String) (k n : Nat) (ks : List Str) (m : FM) (dpm : List (Arg D)) : Prop := ∃ f : Addr, Mk K (cad K C) f ∧ Site P w K mg base f k (n + 1) ks m dpm
theorem sef_make {x C : String} {k n : Nat} {ks : List Str} {kws : List Keyword} {es : List Expr} {p : Pos} {ca : M (List AR)} {m : FM} {dpm : List (Arg D)} (F : CSite X.prog X.w X.K X.mg X.base C k n ks m dpm) (hm : X.mg (Str.ofString x) = some (.ref (cad X.K C))) (hr : Room (k + 1) X.A) (tk : Takes X W) (hg : Gl X (Str.ofString x)) (ha : SC X W pos es kws n ks ca)
    (hdb : (Str.ofString x == ("__debug__" : Str)) = false := by decide +kernel) : SEF X W (.Call (.Name (Str.ofString x) p) es kws pos) (mMake C m dpm (n + ks.length) ca) := by
  obtain ⟨f, M, fd, ps, pm, hF, hb, hd⟩ := F
  obtain ⟨t, pa, sa⟩ := ha
  refine ⟨_, pe_makeG hF hb M hm hr tk hg pa hdb, fun σ ev I H Q rel h => ?_⟩
  refine sa σ ev I H _ rel ((Post.bind h).imp fun ars ev1 I1 H1 s1 r1 h1 vs pv => ?_)
  unfold Post at h1
  by_cases e : ars.length = n + ks.length
  · simp only [e, if_true] at h1
    refine ⟨by rw [← Paired.len' pv, e], fun x dx hx hdx hne => ?_⟩
    exact make_post hd r1 hx hdx hne (fun q z => Classical.byContradiction fun hn => s1.there q hn z) h1 pv
  · simp only [e, if_false] at h1
end
end FL
set_option Elab.async false
set_option linter.all false
set_option maxRecDepth 100000
set_option maxHeartbeats 4000000
namespace FL
open PySem
open PySem.Spec
open L2
inductive XB where
  | ve | oe | le | re
def XB.nm : XB → String
  | .ve => "ValueError" | .oe => "OverflowError" | .le => "LookupError" | .re => "RuntimeError"
def XB.new : XB → String
  | .ve => "ValueError.__new__" | .oe => "OverflowError.__new__" | .le => "LookupError.__new__" | .re => "RuntimeError.__new__"
def XB.ini : XB → String
  | .ve => "ValueError.__init__" | .oe => "OverflowError.__init__" | .le => "LookupError.__init__" | .re => "RuntimeError.__init__"
def XB.mro : XB → List Value
  | .ve => [.type "ValueError", .type "Exception", .type "BaseException", .type "object"] | .oe => [.type "OverflowError", .type "ArithmeticError", .type "Exception", .type "BaseException", .type "object"]
  | .le => [.type "LookupError", .type "Exception", .type "BaseException", .type "object"] | .re => [.type "RuntimeError", .type "Exception", .type "BaseException", .type "object"]
theorem XB.base : ∀ b : XB, ExcBaseFacts b.nm b.new b.ini b.mro
  | .ve => F.excBase_ValueError | .oe => F.excBase_OverflowError | .le => F.excBase_LookupError | .re => F.excBase_RuntimeError
theorem XB.store : ∀ b : XB, StoreFacts b.nm b.mro "object.__setattr__" "object"
  | .ve => F.store_ValueError | .oe => F.store_OverflowError | .le => F.store_LookupError | .re => F.store_RuntimeError
theorem XB.boot : ∀ b : XB, bootBuiltins (Str.ofString b.nm) = some (.type b.nm)
  | .ve => PyProof.Rows.Boot.«ValueError» | .oe => PyProof.Rows.Boot.«OverflowError» | .le => PyProof.Rows.Boot.«LookupError» | .re => PyProof.Rows.Boot.«RuntimeError»
theorem XB.typ : ∀ b : XB, typeOf (.type b.nm) = pure (.type "type")
  | .ve => PySem.OEX.typ_VE | .oe => by kernel_rfl | .le => by kernel_rfl | .re => by kernel_rfl
theorem XB.stub : ∀ b : XB, Manifest.isStub b.nm = false
  | .ve => by decide +kernel | .oe => by decide +kernel | .le => by decide +kernel | .re => by decide +kernel
theorem XB.handed (b : XB) : PySem.W.handedIn (Value.builtin b.ini) = true := by cases b <;> decide +kernel
/-- what the written part says of an own exception class -/
structure OxB (K : PySem.W.Frag) (C : Addr) (b : XB) : Prop where
  cls : PySem.W.excInitIn K C b.mro b.new = true
  over : PySem.W.excOver K C b.mro = true
  dict : PySem.W.hasDictIn K C = true
  stor : PySem.W.findIn K (.ref C) "__setattr__" = some (some (.builtin "object.__setattr__"))
  exc : PySem.W.subIn K (.ref C) (.type "BaseException") = some true
  typ : PySem.W.typeIn K (.ref C) = some (.type "type")
  kpo : PySem.W.keepIn K (.ref C) = true
section
variable {X : Cx} {pins : List (Addr × Obj)} {σ : St} {H : Hp} {s : Shared} {a C : Addr} {f : Str} {y : V} {u : Value} {Q : Unit → Shared → Prop} {E : Value → Shared → Prop} {A : Around} {b : XB}
/-- the one store: self.f = y -/
theorem ox_store (T : OxB X.K C b) (I : Inv X pins σ H s) (e : H a = some (exo a C none)) (hno : PySem.W.findIn X.K (.ref C) f = some none) (ry : RelV y u)
    (h : ∀ dq s', H dq = none → dq ≠ a → Inv X pins σ (upd (upd H dq (exd dq [(f, y)])) a (exo a C (some dq))) s' → Q () s') : wpAny (model X.prog X.w) A (setAttr (.ref a) f u) Q E s := by
  obtain ⟨t1, hob⟩ := exo_at I.hok e
  obtain ⟨cld, hcd, hhd⟩ := PySem.W.any_some T.dict
  obtain ⟨hpx, g, d, t, os⟩ := s
  have at0 : PySem.W.InstAt hpx a { cls := .ref C, dict := none, data := .fields #[.ref t1, .none, .none, .none, .bool false, .none] } C none := ⟨hob, rfl, rfl, trivial⟩
  have hxs : a ≠ hpx.objs.size := Nat.ne_of_lt (Heap.lt_size hob)
  have hcls : PySem.W.Looks (model X.prog X.w) hpx (classData C) cld := PySem.W.looks_clsIn I.kIn hcd
  have fin : ∀ h' tk' dq, (∀ c o, c ≠ a → hpx.get? c = some o → h'.get? c = some o) → hpx.objs.size ≤ dq → dq ≠ a → h'.get? a = some { cls := .ref C, dict := some dq, data := .fields #[.ref t1, .none, .none, .none, .bool false, .none] } →
      h'.Ns1 dq (fun z => if z = f then some u else none) → Q () ⟨h', g, d, tk', os⟩ := fun h' tk' dq k dn dne hx hnw => by
    have hnd : H dq = none := I.hok.fresh dn
    have nd : ∀ {c : Addr} {o : Obj}, hpx.get? c = some o → c ≠ dq := fun {c o} q => Nat.ne_of_lt (Nat.lt_of_lt_of_le (Heap.lt_size q) dn)
    have na : ∀ {c : Addr}, H c = none → c ≠ a := fun {c} n z => by
      rw [z, e] at n
      cases n
    have U : Un X.fs [] H (upd (upd H dq (exd dq [(f, y)])) a (exo a C (some dq))) hpx h' := by
      refine ⟨fun c o q n _ _ => k c o (na n) q, fun c o q n _ _ => ⟨o.slots, k c o (na n) q⟩, fun c o q n _ => ?_, fun c o q _ => ?_, fun c xs q => ?_, fun c o v q => ?_, fun c ps q => ⟨#[], ?_⟩⟩
      · rw [upd_ne (na n), upd_ne (nd q)]
        exact n
      · by_cases hcb : c = a
        · exact ⟨_, by rw [hcb]; exact hx⟩
        · exact ⟨o, k c o hcb q⟩
      · rw [upd_ne (at_ne e q exo_tup), upd_ne (ne_of_none q hnd)]
        exact q
      · rw [upd_ne (at_ne e q exo_frz), upd_ne (ne_of_none q hnd)]
        exact q
      · rw [upd_ne (at_ne e q exo_tbl), upd_ne (ne_of_none q hnd), q]
        simp
    refine h dq _ hnd dne (I.un (t' := tk') U fun c o q => ?_)
    by_cases hcb : c = a
    · subst hcb
      rw [upd_same] at q
      cases q
      exact exo_ok hx
    · rw [upd_ne hcb] at q
      by_cases hd : c = dq
      · subst hd
        rw [upd_same] at q
        cases q
        exact exd_ok hnw (relO_put (fs := []) ry fun g => True.intro)
      · rw [upd_ne hd] at q
        refine (I.hok c o q).stay (fun z v hc w => k z v ?_ w) (fun z hc => ?_) fun z xs hc => ?_
        · rcases hc with hc | hc
          · rw [hc]
            exact hcb
          · exact at_ne e hc exo_own
        · rw [upd_ne (at_ne e hc exo_own), upd_ne (ne_of_none hc hnd)]
          exact hc
        · rw [upd_ne (at_ne e hc exo_tup), upd_ne (ne_of_none hc hnd)]
          exact hc
  refine PySem.W.set_plain I.kIn at0 T.stor (PySem.W.osa_openX b.store I.kIn at0 T.over (NoAttr.taker hno) fun q => ?_)
  show wpAny _ _ (Builtin.ObjectAttr.storeInOwnDict (.ref a) (.ref C) (.str f _) f u q) _ _ _
  obtain ⟨nm, bs, mro, ns, qn, hd, sn, sb, ab, col, del⟩ := cld
  dsimp only at hhd
  subst hhd
  unfold Builtin.ObjectAttr.storeInOwnDict
  unfold Builtin.ObjectAttr.ownDictForStores
  repeat (first | with_reducible refine PySem.HandSPX.store_in_new ?_ ?_ | with_reducible refine hcls.at ?_ | with_reducible refine wpAny_loadPart_at hob ?_ | wp_step)
  · exact ⟨_, #[], _, (Heap.get?_update_ne _ _ _ _ hxs.symm).trans (Heap.get?_push_at rfl rfl), rfl, fun z hz => absurd hz (by simp), fun _ => rfl⟩
  · intro h' tk' hn' hs
    have ho2 : (hpx.push { cls := .type "dict", data := .dict #[] }).get? a = some { cls := .ref C, dict := none, data := .fields #[.ref t1, .none, .none, .none, .bool false, .none] } := Heap.get?_push_of_some _ hob
    refine fin h' tk' hpx.objs.size (fun c o hc q => ?_) (Nat.le_refl _) hxs.symm ?_ hn'
    · exact (hs.2 c (Nat.ne_of_lt (Heap.lt_size q))).trans ((Heap.get?_update_ne _ _ _ _ hc).trans (Heap.get?_push_of_some _ q))
    · exact (hs.2 a hxs).trans (Heap.get?_update_self _ ho2 rfl)
/-- B.__init__(self, ..): nothing of it is told -/
theorem ox_init {uus : List Value} {Q : Value → Shared → Prop} (T : OxB X.K C b) (I : Inv X pins σ H s) (e : H a = some (exo a C none)) (hl : uus.length ≤ sizeLine) (h : ∀ s', Inv X pins σ H s' → Q .none s') :
    wpAny (model X.prog X.w) A (call (.builtin b.ini) (.ref a :: uus)) Q E s := by
  obtain ⟨nm, N', qn, bs, bm, hdct, sn, sub, ab, col, dd, k0, k1, k2, k3, k5, hC, hT⟩ := PySem.W.excInit_of I.kIn T.cls
  obtain ⟨t1, hob⟩ := exo_at I.hok e
  obtain ⟨hpx, g, d, t, os⟩ := s
  refine wpAny_call (PySem.HandSPX.init_base b.base hT hC hob hl fun h' t2 k hx => h _ ?_)
  have JW := I.write (t' := t) (x := a) (e := a) (o := exo a C none) (by rw [e]; exact True.intro) (.inl rfl) k ⟨_, hx⟩ (exo_ok hx)
  have eu : upd H a (exo a C none) = H := funext fun c => by
    by_cases hcb : c = a
    · rw [hcb, upd_same, e]
    · rw [upd_ne hcb]
  rw [eu] at JW
  exact JW
end
def tBI (K : PySem.W.Frag) (b : XB) (ta : TA) : TE := fun σ H Q => ta σ H fun vs H1 => ∃ (a C : Addr) (ws : List V), vs = .ref a :: ws ∧ ws.length ≤ 1000 ∧ OxB K C b ∧ H1 a = some (exo a C none) ∧ Q .non H1
def sOx (K : PySem.W.Frag) (b : XB) (f : Str) (to te : TE) : TS := fun D σ H => te σ H fun y H1 => to σ H1 fun x H2 => ∃ a C : Addr, x = .ref a ∧ OxB K C b ∧ PySem.W.findIn K (.ref C) f = some none ∧ H2 a = some (exo a C none) ∧
  ∀ dq, H2 dq = none → dq ≠ a → D.nx σ (upd (upd H2 dq (exd dq [(f, y)])) a (exo a C (some dq)))
section
variable {X : Cx} {o e : Expr} {es : List Expr} {to te : TE} {ta : TA} {f : Str} {p p' p1 p2 pos : Pos} {b : XB}
theorem pe_binit {pl : Sem Bool} (hg : Gl X (Str.ofString b.nm)) (hm : X.mg (Str.ofString b.nm) = none) (vV : PySem.W.findCls X.K (.type b.nm) (.type "type") "__init__" = some (.val (.builtin b.ini))) (ha : PA X (e :: es) ta)
    (hc : eval (.Call (.Attribute (.Name (Str.ofString b.nm) p1) "__init__" p2) (e :: es) [] pos) X.env = (do
      let ov ← eval (.Name (Str.ofString b.nm) p1) X.env
      standAt p2.atName
      let (h, first) ← holding [ov] (getMethod ov "__init__" pl)
      callWith pos h first (backTo pos (starEach (e :: es) X.env)) (backToKw pos (keywordEach [] X.env))) := by rfl)
    (hea : starEach (e :: es) X.env = (false, eval e X.env) :: starEach es X.env := by rfl) (hpl : (backTo pos (starEach es X.env)).any (·.1) = false := by rfl)
    (hnw : Str.ofString b.nm ≠ "__name__" := by decide +kernel) (hd : (Str.ofString b.nm == ("__debug__" : Str)) = false := by decide +kernel) :
    PE X (.Call (.Attribute (.Name (Str.ofString b.nm) p1) "__init__" p2) (e :: es) [] pos) (tBI X.K b ta) := by
  refine ⟨fun pins s σ H Q I h => PySem.W.methodCall_KW (ld_blt I hg hm b.boot ?_ hnw hd) hc⟩
  obtain ⟨m, fr⟩ := I.fr
  refine PySem.W.method_type fr I.ok.mod.kin b.typ b.stub vV b.handed ?_
  show wpAny _ _ (callWith pos (Value.builtin b.ini) [] (backTo pos (starEach (e :: es) X.env)) []) _ _ _
  refine PyProof.Rows.callWith_method1 (thn (ha.run pos pins _ σ H _ (I.tok _) h) fun uus s1 hq => ?_) hea hpl
  obtain ⟨vs, H1, I1, r1, a, C, ws, ev, hl, T, ea, q⟩ := hq
  subst ev
  cases r1 with
  | @cons _ u0 _ ur rva rw' =>
    obtain rfl : u0 = Value.ref a := rva
    exact ox_init T I1 ea (by rw [← Paired.length rw', sizeLine_eq]; omega) fun s' JW => ⟨.non, H1, JW, rfl, q⟩
theorem ps_ox (b : XB) (hob : PE X o to) (hea : PE X e te) (hs : swapsWith e (some (.Attribute o f p')) pos.line X.env = pure false := by rfl) : PS X (.Assign [.Attribute o f p'] e pos) (sOx X.K b f to te) := by
  refine ⟨fun pins s σ H D I h => plainObj_wpAny_Assign_Attribute (thn (hea.run pins s σ H _ I h) fun v s1 hq => ?_) hs⟩
  obtain ⟨y, H1, I1, r1, q1⟩ := hq
  refine thn (hob.run pins s1 σ H1 _ I1 q1) fun u s2 hq => ?_
  obtain ⟨x, H2, I2, rz2, a, C, ex, T, hno, ea, q⟩ := hq
  subst ex
  obtain rfl : u = Value.ref a := rz2
  exact ox_store T I2 ea hno r1 fun dq s' n ne JW => ⟨σ, _, JW, q dq n ne⟩
end
def spX (C : Addr) (f : Str) : Sp := fun vs H Q _ => ∃ (a : Addr) (v : V), vs = [.ref a, v] ∧ H a = some (exo a C none) ∧ ∀ dq, H dq = none → dq ≠ a → Q .non (upd (upd H dq (exd dq [(f, v)])) a (exo a C (some dq)))
def tIn (K : PySem.W.Frag) (b : XB) (f : Str) : TS := tSeq (tDrop (tBI K b (tCons (tVar 0) (tCons (tC (.str "")) tNil)))) (sOx K b f (tVar 0) (tVar 1))
theorem init_body {X : Cx} {b : XB} {pl : Env → Sem Bool} {x1 x2 m f : Str} {j : Nat} {B : Str} {p1 p2 p3 p4 p5 p6 p7 p8 p9 p10 : Pos} (hB : B = Str.ofString b.nm) (n1 : X.N[0]? = some x1) (n2 : X.N[1]? = some x2) (v1 : Vis X.env.scope x1) (v2 : Vis X.env.scope x2) (hg : Gl X B) (hm : X.mg B = none)
    (vV : PySem.W.findCls X.K (.type b.nm) (.type "type") "__init__" = some (.val (.builtin b.ini)))
    (d1 : (x1 == ("__debug__" : Str)) = false := by decide +kernel) (c1 : (x1 == ("__classdict__" : Str)) = false := by decide +kernel) (d2 : (x2 == ("__debug__" : Str)) = false := by decide +kernel) (c2 : (x2 == ("__classdict__" : Str)) = false := by decide +kernel)
    (hnw : B ≠ "__name__" := by decide +kernel) (hd : (B == ("__debug__" : Str)) = false := by decide +kernel)
    (hc : ∀ env, eval (.Call (.Attribute (.Name B p1) "__init__" p2) [.Name x1 p3, .Constant (.str m) j p4] [] p5) env = (do
      let ov ← eval (.Name B p1) env
      standAt p2.atName
      let (h, first) ← holding [ov] (getMethod ov "__init__" (pl env))
      callWith p5 h first (backTo p5 (starEach [.Name x1 p3, .Constant (.str m) j p4] env)) (backToKw p5 (keywordEach [] env))))
    {body : List Stmt} (hcb : body = [.Expr (.Call (.Attribute (.Name B p1) "__init__" p2) [.Name x1 p3, .Constant (.str m) j p4] [] p5) p6, .Assign [.Attribute (.Name x1 p7) f p8] (.Name x2 p9) p10]) :
    PSs X body (tSeq (tDrop (tBI X.K b (tCons (tVar 0) (tCons (tC (.str m)) tNil)))) (sOx X.K b f (tVar 0) (tVar 1))) := by
  subst hcb hB
  exact pss_cons (ps_expr (pe_binit hg hm vV (pa_cons (pe_var n1 v1 d1 c1) (pa_cons pe_str pa_nil)) (hc X.env) rfl rfl hnw hd)) (pss_one (ps_ox b (pe_var n1 v1 d1 c1) (pe_var n2 v2 d2 c2) rfl))
theorem init_ok {P : Program} {w : World} {K : PySem.W.Frag} {mg : Str → Option Value} {base : Heap} {qual : Str} {params : Arguments} {body : List Stmt} {scope : Scope} {fI C : Addr} {fd : FuncData} {b : XB} {pl : Env → Sem Bool} {x1 x2 m f : Str} {j : Nat} {B : Str} {p1 p2 p3 p4 p5 p6 p7 p8 p9 p10 : Pos}
    (F : FunD K "__init__" qual params body scope [] [] fI fd) (S : FnScope [x1, x2] [x1, x2] scope) (T : OxB K C b) (hno : PySem.W.findIn K (.ref C) f = some none) (hB : B = Str.ofString b.nm) (v1 : Vis scope x1) (v2 : Vis scope x2)
    (hg : ∀ (cdv : Value) (A : Around) (outer : List Env) (s : Shared) (H : Hp) (E : XK), Gl (cxOf (L2.CX P w) P w K mg base [x1, x2] qual scope fI cdv A outer s H E) B) (hm : mg B = none)
    (vV : PySem.W.findCls K (.type b.nm) (.type "type") "__init__" = some (.val (.builtin b.ini)))
    (hc : ∀ env, eval (.Call (.Attribute (.Name B p1) "__init__" p2) [.Name x1 p3, .Constant (.str m) j p4] [] p5) env = (do
      let ov ← eval (.Name B p1) env
      standAt p2.atName
      let (h, first) ← holding [ov] (getMethod ov "__init__" (pl env))
      callWith p5 h first (backTo p5 (starEach [.Name x1 p3, .Constant (.str m) j p4] env)) (backToKw p5 (keywordEach [] env))))
    (hcb : body = [.Expr (.Call (.Attribute (.Name B p1) "__init__" p2) [.Name x1 p3, .Constant (.str m) j p4] [] p5) p6, .Assign [.Attribute (.Name x1 p7) f p8] (.Name x2 p9) p10])
    (d1 : (x1 == ("__debug__" : Str)) = false := by decide +kernel) (c1 : (x1 == ("__classdict__" : Str)) = false := by decide +kernel) (d2 : (x2 == ("__debug__" : Str)) = false := by decide +kernel) (c2 : (x2 == ("__classdict__" : Str)) = false := by decide +kernel)
    (hnw : B ≠ "__name__" := by decide +kernel) (hd : (B == ("__debug__" : Str)) = false := by decide +kernel) : FnOk P w K mg base (L2.CX P w) 1 fI fd [x1, x2] (spX C f) := by
  refine F.ok S (fun vs H Q E h => by obtain ⟨a, v, e, _⟩ := h; rw [e]; rfl) fun cdv A outer s H vs Q E hr h => ?_
  refine ⟨_, init_body (m := m) (j := j) hB rfl rfl v1 v2 (hg cdv A outer s H E) hm vV d1 c1 d2 c2 hnw hd hc hcb, ?_⟩
  obtain ⟨a, v, rfl, ea, q⟩ := h
  exact ⟨.ref a, rfl, a, C, [.str m], rfl, by simp, T, ea, v, rfl, .ref a, rfl, a, C, rfl, T, hno, ea, q⟩
theorem make_ox {X : Cx} {x : Str} {e : Expr} {ta : TE} {p pos : Pos} {C fI : Addr} {k : Nat} {fd : FuncData} {ps : List Str} {sp : Sp} {b : XB} (T : OxB X.K C b) (iC : PySem.W.findIn X.K (.ref C) "__init__" = some (some (.ref fI))) (tI : PySem.W.typeIn X.K (.ref fI) = some (.type "function"))
    (F1 : FnOk X.prog X.w X.K X.mg X.base (L2.CX X.prog X.w) k fI fd ps sp) (hr : Room (k + 1) X.A) (hcb : Binds X.K fd ps []) (hx : Passes (L2.CX X.prog X.w) X (fun _ _ _ => False)) (hg : Gl X x) (hm : X.mg x = some (.ref C)) (ha : PE X e ta)
    (hdb : (x == ("__debug__" : Str)) = false) (hea : starEach [e] X.env = (false, eval e X.env) :: starEach [] X.env := by rfl) (hpl : (backTo pos (starEach [] X.env)).any (·.1) = false := by rfl) :
    PMk X (.Call (.Name x p) [e] [] pos) (tMkO C sp [] (tCons ta tNil)) := by
  intro pins s σ H Q I h
  refine wpAny_Call_Name_kw (ld_glob I hg hm (PySem.W.callWith_K (h₀ := X.base) I.ok.mod.kin T.kpo (thn ((pa_cons ha pa_nil hea).run pos pins s σ H _ I h) fun uus s1 hq => ?_) hea hpl) hdb)
  obtain ⟨vs, H1, I1, r1, hz, q1⟩ := hq
  refine ⟨I1.kIn, ?_⟩
  show wpAny _ _ (call (.ref C) uus) _ _ _
  obtain ⟨hpx, g, dr, tk, os⟩ := s1
  obtain ⟨nm, N', qn, bs, bm, hdct, sn, sub, ab, col, dd, k0, k1, k2, k3, k5, hC, hT⟩ := PySem.W.excInit_of I1.kIn T.cls
  have hszl : hpx.objs.size ≤ hpx.objs.size + 1 := Nat.le_succ _
  have hq := q1 (hpx.objs.size + 1) (I1.hok.fresh hszl)
  rw [List.append_nil] at hq
  have kk : ∀ c o, hpx.get? c = some o → ((hpx.push (PySem.W.kdv_tup uus)).push (PySem.HandSPX.excO C hpx.objs.size)).get? c = some o := fun c o e => Heap.get?_push_of_some _ (Heap.get?_push_of_some _ e)
  have hget : ((hpx.push (PySem.W.kdv_tup uus)).push (PySem.HandSPX.excO C hpx.objs.size)).get? (hpx.objs.size + 1) = some (PySem.HandSPX.excO C hpx.objs.size) := by heap_get
  have I2 := I1.laid (t' := tk) (a := hpx.objs.size + 1) (o := exo (hpx.objs.size + 1) C none) (h' := (hpx.push (PySem.W.kdv_tup uus)).push (PySem.HandSPX.excO C hpx.objs.size)) kk hszl (exo_ok hget)
  have rz2 : Vals (V.ref (hpx.objs.size + 1) :: vs) (Value.ref (hpx.objs.size + 1) :: uus) := .cons rfl r1
  have hl : (Value.ref (hpx.objs.size + 1) :: uus ++ []).length = ps.length := by
    rw [List.append_nil, ← rz2.length]
    exact F1.len _ _ _ _ hq
  have b2 := hcb _ (Value.ref (hpx.objs.size + 1) :: uus) I2.kIn hl
  rw [List.append_nil] at b2
  refine wpAny_call (PySem.HandSPX.call_own b.base hT hC (PySem.W.looks_findIn I1.kIn iC) (fun self => PySem.W.bind_fn I1.kIn self tI) (by rw [← Paired.length r1, sizeLine_eq]; omega)
    (codeAny_mono (F1.run _ X.stack _ _ ⟨Value.ref (hpx.objs.size + 1) :: uus, []⟩ _ _ _ (fun _ _ _ => False) (hr.make C uus []) (I2.env0.make C uus []) b2 rz2 hq) fun r s' hqz => ?_))
  cases r with
  | error er => exact hx pins σ _ _ er s' I2 hqz
  | ok fl =>
    cases fl with
    | ret u =>
      obtain ⟨v, H2, os2, bare2, un2, hok2, rv, ev, d, fs, ea, ed, hd1, q2⟩ := hqz
      subst ev
      obtain ⟨hN2, gN2, dN2, tN2, osN⟩ := s'
      exact ⟨rv, mk_end (raises_own T.exc T.typ) I1 hszl kk un2 hok2 os2 bare2 ea ed hd1 q2⟩
    | _ => exact False.elim hqz
/-- an own exception class with one field -/
def XSite (P : Program) (w : World) (K : PySem.W.Frag) (mg : Str → Option Value) (base : Heap) (C f : String) (k : Nat) : Prop :=
  ∃ (b : XB) (fI : Addr) (fd : FuncData) (ps : List Str), OxB K (cad K C) b ∧ PySem.W.findIn K (.ref (cad K C)) "__init__" = some (some (.ref fI)) ∧ PySem.W.typeIn K (.ref fI) = some (.type "function") ∧
    FnOk P w K mg base (L2.CX P w) k fI fd ps (spX (cad K C) (Str.ofString f)) ∧ Binds K fd ps [] ∧ mg (Str.ofString C) = some (.ref (cad K C))
def sRaise (C f : String) (ca : M D) : MS := sE ca fun d ev => some (.er ⟨C, [f], [d]⟩ ev)
theorem del_upd {H : Hp} {a : Addr} {o : HO} (h : H a = none) : ∀ c, del (upd H a o) a c = H c := fun c => by
  by_cases q : c = a
  · rw [q, del_same, h]
  · rw [del_ne q, upd_ne q]
theorem ss_raise {X : Cx} {W : WX} {e : Expr} {C f : String} {k : Nat} {ca : M D} {p pos cpos : Pos} (F : XSite X.prog X.w X.K X.mg X.base C f k) (hr : Room (k + 1) X.A) (hc : X.calm = true) (tk : Takes X W) (hg : Gl X (Str.ofString C)) (ha : SE X W e ca)
    (hdb : (Str.ofString C == ("__debug__" : Str)) = false := by decide +kernel) (hea : starEach [e] X.env = (false, eval e X.env) :: starEach [] X.env := by rfl) (hpl : (backTo cpos (starEach [] X.env)).any (·.1) = false := by rfl) :
    SS X W (.Raise (some (.Call (.Name (Str.ofString C) p) [e] [] cpos)) none pos) (sRaise C f ca) := by
  obtain ⟨b, fI, fd, ps, T, iC, tI, F1, hcb, hm⟩ := F
  obtain ⟨t, pa, sa⟩ := ha
  refine ⟨_, ps_raise hc tk (make_ox T iC tI F1 hr hcb (passes_call tk fun _ _ _ _ h => h.elim) hg hm pa hdb hea hpl), fun σ ev I H En rel h => ?_⟩
  refine sa σ ev I H _ rel (h.expr.imp fun d ev1 I1 H1 s1 r1 h1 v rv => ?_)
  refine ⟨by simp, fun a ha => ⟨a, v, rfl, upd_same, fun dq hdx hne => ⟨rfl, dq, [(Str.ofString f, v)], upd_same, ?_, ?_, ?_⟩⟩⟩
  · rw [upd_ne hne, upd_same]
  · rw [upd_ne hne] at hdx
    exact hdx
  · have hd1 : H1 dq = none := by rw [upd_ne hne] at hdx; exact hdx
    -- the heap behind: the exception's dict, and nothing else
    have eq : ∀ c, (upd (del (upd (upd (upd H1 a (exo a (cad X.K C) none)) dq (exd dq [(Str.ofString f, v)])) a (exo a (cad X.K C) (some dq))) a) dq (.xd [(Str.ofString f, v)])) c = upd H1 dq (.xd [(Str.ofString f, v)]) c := fun c => by
      by_cases q : c = dq
      · rw [q, upd_same, upd_same]
      · rw [upd_ne q, upd_ne q]
        by_cases q2 : c = a
        · rw [q2, del_same, ha]
        · rw [del_ne q2, upd_ne q2, upd_ne q, upd_ne q2]
    rw [funext eq]
    have ex : Ex I1 H1 I1 (upd H1 dq (.xd [(Str.ofString f, v)])) := Ex.laid r1.sub hd1
    unfold PostS at h1
    exact h1 σ I1 _ dq ex.step (r1.ex ex) ⟨[v], by rw [upd_same]; rfl, rfl, Rs_cons.mpr ⟨v, [], rfl, rv, Rs_nil.mpr rfl⟩⟩
end FL
set_option Elab.async false
set_option linter.all false
set_option maxRecDepth 100000
namespace FL
open PySem
open PySem.Spec
open L2
def setN (i : Nat) (ev : Ev) : Option Ev := match ev[i]? with
  | some (some (.bor _)) => none
  | none => none
  | _ => some (ev.set i none)
theorem setN_some {i : Nat} {ev ev' : Ev} (h : setN i ev = some ev') : ev' = ev.set i none ∧ (∀ c, ev[i]? ≠ some (some (.bor c))) ∧ i < ev.length := by
  unfold setN at h
  split at h
  · cases h
  · cases h
  · rename_i hn hm
    cases h
    refine ⟨rfl, fun c z => hn c z, ?_⟩
    exact Nat.lt_of_not_le fun z => hm (List.getElem?_eq_none z)
theorem set_none {K : PySem.W.Frag} {σ : St} {ev ev' : Ev} {I H : Hp} {i : Nat} (r : Rel K σ ev I H) (e : setN i ev = some ev') (o : Option V) : Step σ ev I H (σ.set i o) ev' I H ∧ Rel K (σ.set i o) ev' I H := by
  obtain ⟨rfl, nb, hlt⟩ := setN_some e
  have own : ∀ (j : Nat) (s : SV), (ev.set i none)[j]? = some (some s) → i ≠ j ∧ ev[j]? = some (some s) := fun j s e => by
    rcases set_get e with ⟨_, q⟩ | q
    · cases q
    · exact q
  refine ⟨⟨fun a o h _ => h, fun _ h => h, Le.refl _, fun _ _ h _ => h, fun a w => ?_, fun a w => ?_, fun j c e => ?_⟩, ⟨by simp [r.len], r.sub, fun j s e => ?_, fun j k s t a e1 e2 c1 c2 g1 g2 => ?_⟩⟩
  · obtain ⟨j, s, e, hc, hv⟩ := w
    obtain ⟨hn, e'⟩ := own j s e
    rw [List.getElem?_set_ne hn] at hv
    exact .inl ⟨j, s, e', hc, hv⟩
  · obtain ⟨j, s, e, hc, hv⟩ := w
    obtain ⟨hn, e'⟩ := own j s e
    rw [List.getElem?_set_ne hn] at hv
    exact .inl ⟨j, s, e', hc, hv⟩
  · have hn : i ≠ j := fun z => nb c (by rw [z]; exact e)
    exact ⟨⟨c, by rw [List.getElem?_set_ne hn]; exact e⟩, List.getElem?_set_ne hn⟩
  · obtain ⟨hn, q⟩ := own j s e
    obtain ⟨w, h1, h2⟩ := r.slot j s q
    exact ⟨w, by rw [List.getElem?_set_ne hn]; exact h1, h2⟩
  · obtain ⟨n1, e1⟩ := own j s e1
    obtain ⟨n2, e2⟩ := own k t e2
    rw [List.getElem?_set_ne n1] at g1
    rw [List.getElem?_set_ne n2] at g2
    exact r.sep j k s t a e1 e2 c1 c2 g1 g2
def tSOf (K : PySem.W.Frag) (W : WX) (c : MS) : TS := fun D σ H => ∃ ev I, Rel K σ ev I H ∧ PostS K W c σ ev I H D
theorem pss_of {X : Cx} {W : WX} {st : List Stmt} {c : MS} (h : SB X W st c) : PSs X st (tSOf X.K W c) := by
  obtain ⟨t, p, s⟩ := h
  exact ⟨fun pins st σ H D I ⟨ev, J, r, q⟩ => p.run pins st σ H D I (s σ ev J H D r q)⟩
abbrev W0 : WX := fun _ _ _ _ => False
/-- in the suite of an exception e (its fields as the heap has them) -/
structure InX (K : PySem.W.Frag) (i : Nat) (a dd : Addr) (e : Err) (σ : St) (H : Hp) (I : Hp) : Prop where
  slot : σ[i]? = some (some (.ref a))
  xd : XD K I H dd e
def SXE (X : Cx) (i : Nat) (a dd : Addr) (e : Err) (x : Expr) (c : M D) : Prop := ∃ t, PE X x t ∧ ∀ (σ : St) (ev : Ev) (I H : Hp) (Q : VK), Rel X.K σ ev I H → InX X.K i a dd e σ H I → Post X.K W0 c σ ev I H (RG X.K Q) → t σ H Q
def SXA (X : Cx) (i : Nat) (a dd : Addr) (e : Err) (xs : List Expr) (c : M (List D)) : Prop := ∃ t, PA X xs t ∧ ∀ (σ : St) (ev : Ev) (I H : Hp) (Q : List V → Hp → Prop), Rel X.K σ ev I H → InX X.K i a dd e σ H I → Post X.K W0 c σ ev I H (fun ds _ I' H' => ∀ vs, Rs X.K I' ds vs → Q vs H') → t σ H Q
def SXS (X : Cx) (i : Nat) (a dd : Addr) (e : Err) (st : Stmt) (c : MS) : Prop := ∃ t, PS X st t ∧ ∀ (σ : St) (ev : Ev) (I H : Hp) (D : Ends), Rel X.K σ ev I H → InX X.K i a dd e σ H I → PostS X.K W0 c σ ev I H D → t D σ H
def SXB (X : Cx) (i : Nat) (a dd : Addr) (e : Err) (st : List Stmt) (c : MS) : Prop := ∃ t, PSs X st t ∧ ∀ (σ : St) (ev : Ev) (I H : Hp) (D : Ends), Rel X.K σ ev I H → InX X.K i a dd e σ H I → PostS X.K W0 c σ ev I H D → t D σ H
/-- the exception's dict is no one's slot -/
theorem XD.keep {K : PySem.W.Frag} {σ : St} {ev : Ev} {I H I' H' : Hp} {σ' : St} {ev' : Ev} {dd : Addr} {e : Err} (r : Rel K σ ev I H) (s : Step σ ev I H σ' ev' I' H') (h : XD K I H dd e) : XD K I' H' dd e := by
  obtain ⟨vs, h1, h2, h3⟩ := h
  refine ⟨vs, s.keep _ _ h1 ?_, h2, Rs.mono s.le _ _ h3⟩
  rintro ⟨j, t, e1, c1, v1⟩
  obtain ⟨p, c, e2, _, e4, _⟩ := r.cell e1 c1
  rw [v1] at e2
  cases e2
  cases c with
  | lst xs => obtain ⟨ws, e5, _⟩ := e4; rw [h1] at e5; cases e5
  | ins C ks fs => obtain ⟨dx, ws, e5, _⟩ := e4; rw [h1] at e5; cases e5
section
variable {X : Cx} {i : Nat} {a dd : Addr} {e : Err} {x y : Expr} {xs : List Expr} {pos : Pos}
theorem sx_e {c : M D} (h : SE X W0 x c) : SXE X i a dd e x c := by
  obtain ⟨t, p, s⟩ := h
  exact ⟨t, p, fun σ ev I H Q r _ q => s σ ev I H Q r q⟩
theorem sxa_nil : SXA X i a dd e [] mNil := by
  obtain ⟨t, p, s⟩ := (sa_nil : SA X W0 [] mNil)
  exact ⟨t, p, fun σ ev I H Q r _ q => s σ ev I H Q r q⟩
theorem InX.step {K : PySem.W.Frag} {σ : St} {ev : Ev} {I H I' H' : Hp} {ev' : Ev} (r : Rel K σ ev I H) (s : Step σ ev I H σ ev' I' H') (h : InX K i a dd e σ H I) : InX K i a dd e σ H' I' := ⟨h.slot, h.xd.keep r s⟩
theorem sxa_cons {ca : M D} {cr : M (List D)} (ha : SXE X i a dd e x ca) (hr : SXA X i a dd e xs cr) (hs : starEach (x :: xs) X.env = (false, eval x X.env) :: starEach xs X.env := by rfl) : SXA X i a dd e (x :: xs) (mCons ca cr) := by
  obtain ⟨ta, pa, sa⟩ := ha
  obtain ⟨tr, pr, sr⟩ := hr
  refine ⟨_, pa_cons pa pr hs, fun σ ev I H Q rel ix h => ?_⟩
  refine sa σ ev I H _ rel ix ((Post.bind h).imp fun d ev1 I1 H1 s1 r1 h1 vx rx => ?_)
  refine sr σ ev1 I1 H1 _ r1 (ix.step rel s1) ((Post.bind h1).imp fun ds ev2 I2 H2 s2 r2 h2 vs rs => ?_)
  exact Post.ret r2 h2 _ (Rs_cons.mpr ⟨vx, vs, rfl, R.mono s2.le _ _ rx, rs⟩)
/-- e.f: the field of the exception at hand -/
def mXf (f : String) (e : Err) : M D := M.opt (fld f e.ks e.fs)
theorem sx_fld {X0 : Cx} {oe : Obj} {cls : Value} {d : Option Addr} {pn : List (Addr × Obj)} {C f : String} {n : Str} {np : Pos} (T : XfC X0.K (cad X0.K C)) (hno : PySem.W.findIn X0.K (.ref (cad X0.K C)) (Str.ofString f) = some none) (hC : e.x = C)
    (hz : Zc cls d oe) (hf : ∃ vs, oe.data = .fields vs) (hcls : cls = .ref (cad X0.K e.x)) (hd : d = some dd) (hN : X0.N[i]? = some n) (hv : Vis X0.env.scope n) (hdb : (n == ("__debug__" : Str)) = false := by decide +kernel) (hcd : (n == ("__classdict__" : Str)) = false := by decide +kernel)
    (hb : attributeBase (.Name n np) (Str.ofString f) X0.env (eval (.Name n np) X0.env) = eval (.Name n np) X0.env := by rfl) : SXE (X0.suite a ((a, oe) :: pn)) i a dd e (.Attribute (.Name n np) (Str.ofString f) pos) (mXf f e) := by
  subst hC
  refine ⟨_, pe_xf T hno hz hf (pe_var (X := X0.suite a ((a, oe) :: pn)) hN hv hdb hcd) hb, fun σ ev I H Q rel ix h => ?_⟩
  obtain ⟨dv, e1, k⟩ := Post.opt h
  obtain ⟨vs, h1, h2, h3⟩ := ix.xd
  obtain ⟨v, l, rv⟩ := fld_ok h3 e1
  exact ⟨.ref a, ix.slot, rfl, hcls, dd, _, v, hd, h1, l, k I H (Step.refl ..) rel v rv⟩
theorem sx_tup {c : M (List D)} {kd} (h : SXA X i a dd e xs c) : SXE X i a dd e (.Tuple xs kd pos) (mTup c) := by
  obtain ⟨t, p, s⟩ := h
  refine ⟨_, pe_tup p, fun σ ev I H Q rel ix h => ?_⟩
  refine s σ ev I H _ rel ix ((Post.bind h).imp fun ds ev1 I1 H1 s1 r1 h1 vs rs => ?_)
  obtain ⟨d, e1, k⟩ := Post.opt h1
  split at e1
  · rename_i hz
    cases e1
    refine ⟨by rw [← rs.length]; exact hz, fun p hp => ?_⟩
    have ex := Ex.alloc (o := HO.tup vs) r1.sub hp
    exact k _ _ ex.step (r1.ex ex) _ (R_tup.mpr ⟨p, vs, rfl, SqT.of upd_same, Rs.mono ex.le _ _ rs⟩)
  · cases e1
theorem sx_lst {c : M (List D)} (h : SXA X i a dd e xs c) : SXE X i a dd e (.List xs pos) (mFz (mLst c)) := by
  obtain ⟨t, p, s⟩ := h
  refine ⟨_, pe_lst p, fun σ ev I H Q rel ix h => ?_⟩
  refine s σ ev I H _ rel ix ((Post.bind h.fz).imp fun ds ev1 I1 H1 s1 r1 h1 vs rs => ?_)
  obtain ⟨d, e1, k⟩ := Post.opt h1
  split at e1
  · rename_i hz
    cases e1
    refine ⟨by rw [← rs.length]; exact hz, fun p hp => ?_⟩
    have ex := Ex.laid (o := HO.lst vs) r1.sub hp
    have h0 : H p = none := Classical.byContradiction fun z => s1.there p z hp
    exact k _ _ ex.step (r1.ex ex) p h0 (r1.fresh hp).1 (r1.fresh hp).2 ⟨vs, upd_same, rs⟩
  · cases e1
theorem sxs_ret {c : M D} (h : SXE X i a dd e x c) : SXS X i a dd e (.Return (some x) pos) (sRet c) := by
  obtain ⟨t, p, s⟩ := h
  refine ⟨_, ps_ret p, fun σ ev I H En rel ix h => ?_⟩
  exact s σ ev I H _ rel ix (h.expr.imp fun d ev1 I1 H1 s1 r1 h1 v rv => h1.rt rfl σ I1 H1 v (Step.refl ..) r1 rv)
theorem sxs_set (j : Nat) {n : Str} {c : M D} {p : Pos} (hN : X.N.Nodup) (hi : X.N[j]? = some n) (hx : Loc X.env.scope n) (hf : X.fn n = true ∨ X.env.scope.names.lookup n = some .local) (h : SXE X i a dd e x c)
    (hs : swapsWithSole [.Name n p] x pos.line X.env = pure false := by rfl) (hw : swappedStores [.Name n p] x X.env = pure none := by rfl) (h1 : (assignEach [.Name n p] X.env).map (·.2) = [assign (.Name n p) X.env] := by rfl) : SXS X i a dd e (.Assign [.Name n p] x pos) (sSet j c) := by
  obtain ⟨t, pa, s⟩ := h
  refine ⟨_, ps_asg pa (pg_name hN hi hx hf) hs hw h1, fun σ ev I H En rel ix h => ?_⟩
  refine s σ ev I H _ rel ix (h.expr.imp fun d ev1 I1 H1 s1 r1 h1 v rv => ?_)
  obtain ⟨ev2, e2, k⟩ := h1.opt
  obtain ⟨s2, r2⟩ := set_data r1 e2 rv
  exact k _ _ _ s2 r2
theorem sxs_s {st : Stmt} {c : MS} (h : SS X W0 st c) : SXS X i a dd e st c := by
  obtain ⟨t, p, s⟩ := h
  exact ⟨t, p, fun σ ev I H En r _ q => s σ ev I H En r q⟩
theorem sxb_one {st : Stmt} {c : MS} (h : SXS X i a dd e st c) : SXB X i a dd e [st] c := by
  obtain ⟨t, p, s⟩ := h
  exact ⟨_, pss_one p, s⟩
end
def mapN (i : Nat) : OS → Option OS
  | .nx ev => (setN i ev).map .nx
  | .rt r ev => (setN i ev).map (.rt r)
  | .bk ev => (setN i ev).map .bk
  | .ct ev => (setN i ev).map .ct
  | .er _ _ => none
/-- xt: which class is caught by which -/
def lkX : List (String × String × Bool) → String → String → Option Bool
  | [], _, _ => none
  | r :: xt, x, C => if r.1 = x ∧ r.2.1 = C then some r.2.2 else lkX xt x C
def XtOk (K : PySem.W.Frag) (xt : List (String × String × Bool)) : Prop := ∀ r ∈ xt, PySem.W.exmOne K (.ref (cad K r.1)) (.ref (cad K r.2.1)) = some r.2.2
theorem lkX_ok {K : PySem.W.Frag} : ∀ {xt : List (String × String × Bool)} {x C : String} {b : Bool}, XtOk K xt → lkX xt x C = some b → PySem.W.exmOne K (.ref (cad K x)) (.ref (cad K C)) = some b
  | [], x, C, b, _, h => by cases h
  | r :: xt, x, C, b, T, h => by
    unfold lkX at h
    split at h
    · rename_i q
      have t := T r (List.mem_cons_self ..)
      rw [q.1, q.2] at t
      exact t.trans h
    · exact lkX_ok (fun r hr => T r (List.mem_cons_of_mem _ hr)) h
def sTryAs (xt : List (String × String × Bool)) (C : String) (i : Nat) (cb : MS) (cs : Err → MS) : MS := fun ev => match cb ev with
  | some (.er e ev') => match lkX xt e.x C with
    | some true => ((setN i ev').bind (cs e)).bind (mapN i)
    | some false => some (.er e ev')
    | none => none
  | o => o
/-- from a later point, at the slot's own place -/
theorem ss_tryAs {X : Cx} {W : WX} {xt : List (String × String × Bool)} {C : String} {i : Nat} {n : Str} {body suite : List Stmt} {b₀ : Stmt} {np pos pos' : Pos} {cb : MS} {cs : Err → MS} (T : XtOk X.K xt) (hs : X.stack = X.env :: X.outer) (hf : X.env.frame = some X.env.locals) (hN : X.N.Nodup) (hi : X.N[i]? = some n) (hln : X.env.kindOf n = some .local)
    (hc : Names X (Str.ofString C) (.ref (cad X.K C))) (tk : Takes X W)
    (hb : ∀ (W' : WX) (pn : List (Addr × Obj)) (xe : Value → Shared → Prop), Takes (X.tr pn xe) W' → PassesOwn (model X.prog X.w) X.A X.env xe → SB (X.tr pn xe) W' body cb)
    (hsu : ∀ (a dd : Addr) (oe : Obj) (cls : Value) (d : Option Addr) (pn : List (Addr × Obj)) (e : Err), Zc cls d oe → (∃ vs, oe.data = .fields vs) → cls = .ref (cad X.K e.x) → d = some dd → lkX xt e.x C = some true → SXB (X.suite a ((a, oe) :: pn)) i a dd e (b₀ :: suite) (cs e)) :
    SS X W (.Try body [.ExceptHandler (some (.Name (Str.ofString C) np)) (some n) (b₀ :: suite) pos'] [] [] pos) (sTryAs xt C i cb cs) := by
  refine ⟨_, ps_try_as (tb := fun W' => tSOf X.K W' cb) (ts := fun a cls d => fun D σ H => ∃ (ev : Ev) (I : Hp) (dd : Addr) (e : Err), cls = .ref (cad X.K e.x) ∧ d = some dd ∧ lkX xt e.x C = some true ∧ Rel X.K σ ev I H ∧ InX X.K i a dd e σ H I ∧ PostS X.K W0 (cs e) σ ev I H D)
    hs hf hN hi hln hc tk (fun W' pn xe t p => pss_of (hb W' pn xe t p)) (fun a oe cls d pn hz hv => ?_), fun σ ev I H En rel h => ?_⟩
  · refine ⟨fun pins s σ H D I h => ?_⟩
    obtain ⟨ev, J, dd, e, h1, h2, h3, h4, h5, h6⟩ := h
    obtain ⟨t, p, sim⟩ := hsu a dd oe cls d pn e hz hv h1 h2 h3
    exact p.run pins s σ H D I (sim σ ev J H D h4 h5 h6)
  · refine ⟨ev, I, rel, ?_⟩
    have h0 := h
    unfold PostS sTryAs at h
    unfold PostS
    cases q : cb ev with
    | none => rw [q] at h; exact h
    | some o =>
      rw [q] at h
      cases o with
      | nx ev' => exact h
      | bk ev' => exact h
      | ct ev' => exact h
      | rt r ev' => exact h
      | er e ev' =>
        intro σ' I' H' dd s' r' xd
        simp only at h
        cases ql : lkX xt e.x C with
        | none => rw [ql] at h; exact h.elim
        | some b =>
          refine ⟨b, lkX_ok T ql, fun hb1 a ha => ?_, fun hb0 => ?_⟩
          · subst hb1
            rw [ql] at h
            simp only at h
            cases qn : setN i ev' with
            | none => rw [qn] at h; exact h.elim
            | some ev1 =>
              rw [qn] at h
              simp only [Option.bind_some] at h
              obtain ⟨s1, r1⟩ := set_none r' qn (some (.ref a))
              have hlt : i < σ'.length := by
                rw [← r'.len]
                exact (setN_some qn).2.2
              refine ⟨ev1, I', dd, e, rfl, rfl, ql, r1, ⟨List.getElem?_set_self hlt, xd⟩, ?_⟩
              have st := s'.trans s1
              cases qs : cs e ev1 with
              | none => rw [qs] at h; exact h.elim
              | some o2 =>
                rw [qs] at h
                simp only [Option.bind_some] at h
                cases o2 with
                | er e2 ev2 => exact h.elim
                | nx ev2 =>
                  simp only [mapN] at h
                  cases q3 : setN i ev2 with
                  | none => rw [q3] at h; exact h.elim
                  | some ev3 =>
                    rw [q3] at h
                    intro σ2 I2 H2 s2 r2
                    obtain ⟨s3, r3⟩ := set_none r2 q3 none
                    exact h _ I2 H2 ((st.trans s2).trans s3) r3
                | bk ev2 =>
                  simp only [mapN] at h
                  cases q3 : setN i ev2 with
                  | none => rw [q3] at h; exact h.elim
                  | some ev3 =>
                    rw [q3] at h
                    intro σ2 I2 H2 s2 r2
                    obtain ⟨s3, r3⟩ := set_none r2 q3 none
                    exact h _ I2 H2 ((st.trans s2).trans s3) r3
                | ct ev2 =>
                  simp only [mapN] at h
                  cases q3 : setN i ev2 with
                  | none => rw [q3] at h; exact h.elim
                  | some ev3 =>
                    rw [q3] at h
                    intro σ2 I2 H2 s2 r2
                    obtain ⟨s3, r3⟩ := set_none r2 q3 none
                    exact h _ I2 H2 ((st.trans s2).trans s3) r3
                | rt rv ev2 =>
                  simp only [mapN] at h
                  cases q3 : setN i ev2 with
                  | none => rw [q3] at h; exact h.elim
                  | some ev3 =>
                    rw [q3] at h
                    intro σ2 I2 H2 v s2 r2 hv
                    obtain ⟨s3, r3⟩ := set_none r2 q3 none
                    refine h _ I2 H2 v ((st.trans s2).trans s3) r3 ?_
                    cases rv with
                    | d d => exact hv
                    | fr c =>
                      obtain ⟨p, g1, g2, g3, g4⟩ := hv
                      refine ⟨p, g1, ?_, g3, g4⟩
                      rcases g2 with g2 | g2
                      · exact .inl (Classical.byContradiction fun z => st.there p z g2)
                      · exact (st.lown p g2).symm
          · subst hb0
            rw [ql] at h
            exact h σ' I' H' dd s' r' xd
end FL
set_option Elab.async false
set_option linter.all false
set_option maxRecDepth 100000
namespace FL
open PySem
open PySem.Spec
open L2
section
variable {prog : Program} {w : World} {A : Around} {E : Value → Shared → Prop} {s : Shared} {K : PySem.W.Frag} {x C f L : Addr} {h0 : Heap} {m : Str → Option Value} {ox : Obj} {od : Option Obj} {y ty : Value}
/-- x != y where the class has __eq__ of its own and object's __ne__ -/
theorem own_ne {Q : Value → Shared → Prop} (hu : A.units + 1 < cLine) (F0 : PyProof.Rows.Fr h0 L s.heap m) (X0 : K.In h0) (I : PySem.W.InstAt s.heap x ox C od) (hb : PySem.W.Looks (model prog w) s.heap (typeOf y) ty) (hn : PySem.W.notFirst K C ty = true)
    (hN : PySem.W.findIn K (.ref C) "__ne__" = some (some (.builtin "object.__ne__"))) (hE : PySem.W.findIn K (.ref C) "__eq__" = some (some (.ref f))) (hf : PySem.W.isFn K (.ref f) = true) (hm : PySem.W.mroIn K C (.type "object") = some true)
    (h : wpAny (model prog w) A.in1 (call (.ref f) [.ref x, y]) (fun v s' => ∃ q, v = .bool q ∧ Q (.bool (!q)) s') E s) : wpAny (model prog w) A (richCompare .NotEq (.ref x) y) Q E s := by
  have X := X0.keeps F0.keep
  have iv : PySem.W.Looks (model prog w) s.heap (isInstance (.ref x) (.type "object")) true := I.type.andThen (PySem.W.looks_mroIn X hm)
  have inner : ∀ {R : Fin → Shared → Prop} {E' : Value → Shared → Prop}, wpAny (model prog w) A.in1 (call (.ref f) [.ref x, y]) (fun v s' => ∃ q, v = .bool q ∧ R (.done (.ret (.bool (!q)))) s') E' s → wpAny (model prog w) A.in1 (Builtin.«object.__ne__» ⟨[.ref x, y], []⟩) R E' s := fun {R E'} hc => by
    unfold Builtin.«object.__ne__»
    refine wpAny_bind (wpAny_of_eq (a := ((Value.ref x : Value), [y])) (by first | rfl | (simp only [slotArgs]; rfl)) ?_)
    dsimp only
    refine wpAny_bind (wpAny_cRoomFor hu (wpAny_bind (PySem.W.ifBound_K X I hE hf (wpAny_mono hc (fun v s' hv => ?_) fun _ _ z => z))))
    obtain ⟨q, rfl, hq⟩ := hv
    exact wpAny_bind (wpAny_truthy_bool (wpAny_pure hq))
  have one : wpAny (model prog w) A (tryCompare (.ref x) "__ne__" y) (fun r s' => ∃ v, r = some v ∧ Q v s') E s := by
    unfold tryCompare
    refine wpAny_bind (NtL.csib (E := E) (I.type.andThen (PySem.W.looks_findIn X hN)) (F.cmp_object.ne.bind _) (wpAny_call (codeAny_call_builtin F.cmp_object.ne.plain F.cmpEntry_ne
      (@PySem.W.check_slot (model prog w) _ _ _ "object.__ne__" "object" "__ne__" (.ref x) [y] [] _ F.cmpKind_ne F.cmpSplit_ne iv (F.cmpArgs_ne _ _) (inner (wpAny_mono h (fun v s' hv => ?_) fun _ _ z => z))))))
    obtain ⟨q, rfl, hq⟩ := hv
    exact ⟨q, rfl, wpAny_pure ⟨_, rfl, hq⟩⟩
  unfold richCompare
  simp only [oneThing_ref]
  refine wpAny_holding (wpAny_bind (wpAny_cRoomFor (Nat.lt_of_succ_lt hu) ?_))
  rw [cmpInfo_NotEq]
  dsimp only
  refine wpAny_bind (I.type.here (wpAny_bind (hb.here ?_)))
  have fin : wpAny (model prog w) A (tryCompare (.ref x) "__ne__" y) (fun r s' => ∃ v, r = some v ∧ Q v s') E s := one
  split
  · rename_i q
    have e : PySem.W.subIn K ty (.ref C) = some false := by
      rcases Bool.or_eq_true_iff.mp hn with e | e
      · rw [beq_iff_eq.mp e] at q
        simp at q
      · exact beq_iff_eq.mp e
    refine wpAny_bind ((PySem.W.looks_subIn X e).here ?_)
    simp only [Bool.false_eq_true, if_false]
    refine wpAny_bind (wpAny_mono fin (fun r s' z => ?_) fun _ _ z => z)
    obtain ⟨v, rfl, hq⟩ := z
    exact wpAny_pure hq
  · refine wpAny_bind (wpAny_pure ?_)
    simp only [Bool.false_eq_true, if_false]
    refine wpAny_bind (wpAny_mono fin (fun r s' z => ?_) fun _ _ z => z)
    obtain ⟨v, rfl, hq⟩ := z
    exact wpAny_pure hq
end
/-- classes with an own __eq__: the class, its mirror -/
structure ERow where
  C : String
  m : FM
/-- what the text says of one: its __eq__ of level k, the other side's types (none of a class below) -/
def ESite (P : Program) (w : World) (K : PySem.W.Frag) (mg : Str → Option Value) (base : Heap) (k : Nat) (nf : List TN) (r : ERow) : Prop :=
  ∃ f : Addr, Site P w K mg base f k 2 [] r.m [.inl 0, .inl 1] ∧ PySem.W.findIn K (.ref (cad K r.C)) "__eq__" = some (some (.ref f)) ∧ PySem.W.isFn K (.ref f) = true ∧
    PySem.W.findIn K (.ref (cad K r.C)) "__ne__" = some (some (.builtin "object.__ne__")) ∧ PySem.W.mroIn K (cad K r.C) (.type "object") = some true ∧ ∀ t ∈ nf, PySem.W.notFirst K (cad K r.C) (tnV K t) = true
def lkE (C : String) : List ERow → Option ERow
  | [] => none
  | r :: t => if r.C = C then some r else lkE C t
theorem lkE_mem {C : String} : ∀ {t : List ERow} {r : ERow}, lkE C t = some r → r ∈ t ∧ r.C = C
  | [], r, h => by cases h
  | x :: t, r, h => by
    unfold lkE at h
    split at h
    · rename_i q
      cases h
      exact ⟨List.mem_cons_self .., q⟩
    · exact ⟨List.mem_cons_of_mem _ (lkE_mem h).1, (lkE_mem h).2⟩
def bolR : Option FO → Option Bool
  | some (.ret (.d (.bl q)) _) => some q
  | _ => none
def insC : D → Option String
  | .ins C _ _ => some C
  | _ => none
/-- a == b, a an instance -/
def dEqO (tb : List ERow) (nf : List TN) (ins : List String) (a b : D) : Option Bool := match insC a, tyN b with
  | some C, some t => if nf.contains t && okIns ins b then (match lkE C tb with
    | some r => bolR (r.m [.d a, .d b])
    | none => none) else none
  | _, _ => none
section
variable {X : Cx} {k : Nat} {tb : List ERow} {nf : List TN} {kt : List (TN × TN × Bool)} {ins : List String}
theorem R.ex_args {K : PySem.W.Frag} {a b : D} {x y : V} {I H : Hp} (l : Le I H) (ra : R K I a x) (rb : R K I b y) : Rel K (up [x, y]) (up [SV.d a, SV.d b]) I H := by
  refine ⟨rfl, l, fun i s e => ?_, fun i j s t p e1 e2 c1 c2 g1 g2 => ?_⟩
  · obtain ⟨s', h, q⟩ := up_get.mp e
    cases q
    match i, h with
    | 0, h => cases h; exact ⟨x, rfl, ra⟩
    | 1, h => cases h; exact ⟨y, rfl, rb⟩
  · obtain ⟨s', h, q⟩ := up_get.mp e1
    cases q
    match i, h with
    | 0, h => cases h; cases c1
    | 1, h => cases h; cases c1
theorem own_call {op : CmpOp} (hk : Room (k + 1) X.A) (tk : Passes (L2.CX X.prog X.w) X (fun _ _ _ => False)) (T : KitT X.K kt ins) (S : ∀ r ∈ tb, ESite X.prog X.w X.K X.mg X.base k nf r) (neg : Bool) (hop : op = if neg then .NotEq else .Eq) :
    OpS X (compareOp op) (fun a b => (dEqO tb nf ins a b).map fun q => .bl (if neg then !q else q)) := by
  refine ⟨fun x y H Q => ∃ (I : Hp) (a b : D) (q : Bool), Le I H ∧ dEqO tb nf ins a b = some q ∧ R X.K I a x ∧ R X.K I b y ∧ ∀ I' H', Ex I H I' H' → Q (.bl (if neg then !q else q)) H', ?_, fun I H a b x y d Q l e rx ry k => ?_⟩
  · intro pins s σ H x y u v Q J ru rv hq
    obtain ⟨I, a, b, q, l, e, ra, rb, hQ⟩ := hq
    unfold dEqO at e
    split at e
    · rename_i C t e1 e2
      split at e
      · rename_i hc
        obtain ⟨c1, c2⟩ := and_tt hc
        split at e
        · rename_i r er
          obtain ⟨hm, rfl⟩ := lkE_mem er
          cases a with
          | ins C' ks fs =>
            cases e1
            obtain ⟨p, dx, vs, rfl, g1, g2, g3⟩ := R_ins.mp ra
            cases (show u = Value.ref p from ru)
            obtain ⟨f, ⟨fd, ps, pm, F, hb, hd⟩, hE, hf, hN, hmr, hnf⟩ := S r hm
            obtain ⟨mA, O, _⟩ := ins_get J.hok (l _ _ g1)
            obtain ⟨od, O2, _⟩ := O.look
            obtain ⟨m, hF⟩ := J.fr
            obtain ⟨Pz, Z, pz, _⟩ := kit_of J rv (tyN_ok T l e2 c2 rb)
            have tyb := Z.ty (model X.prog X.w) s.heap J.kIn pz
            have hnt := hnf t (by simpa using c1)
            have rr : Vals [V.ref p, y] [Value.ref p, v] := .cons rfl (.cons rv .nil)
            have hsp : spF X.K r.m [V.ref p, y] H (fun z H' => z = .bl q ∧ ∃ I', Ex I H I' H') (fun _ _ _ => False) := by
              refine ⟨[.d (.ins r.C ks fs), .d b], I, R.ex_args l ra rb, fun s hs => ?_, ?_⟩
              · simp only [List.mem_cons, List.not_mem_nil, or_false] at hs
                rcases hs with rfl | rfl <;> rfl
              · unfold bolR at e
                split at e
                · rename_i q' out em
                  cases e
                  rw [em]
                  intro z I' H' st rl hz
                  refine ⟨R_bl.mp (show R X.K I' (.bl q) z from hz), I', ⟨fun a o ha => st.keep a o ha ?_, st.le, rl.sub, fun a h1 h2 => st.new a h1 h2 ?_⟩⟩
                  · rintro ⟨i, s, e1, c1, _⟩
                    obtain ⟨s', h, q2⟩ := up_get.mp e1
                    cases q2
                    match i, h with
                    | 0, h => cases h; cases c1
                    | 1, h => cases h; cases c1
                  · rintro ⟨i, s, e1, c1, _⟩
                    obtain ⟨s', h, q2⟩ := up_get.mp e1
                    cases q2
                    match i, h with
                    | 0, h => cases h; cases c1
                    | 1, h => cases h; cases c1
                · cases e
            have har : arr V.non pm [V.ref p, y] = [V.ref p, y] := by
              cases hd with
              | cons h1 t1 =>
                rename_i b1 m1
                cases t1 with
                | cons h2 t2 =>
                  rename_i b2 m2
                  cases t2
                  cases b1 with
                  | inr => exact h1.elim
                  | inl i1 =>
                    cases b2 with
                    | inr => exact h2.elim
                    | inl i2 =>
                      have q1 : 0 = i1 := h1
                      have q2 : 1 = i2 := h2
                      subst q1 q2
                      rfl
            obtain ⟨us', b2, r2⟩ := hb s [Value.ref p, v] [] [V.ref p, y] J.kIn (by rw [List.append_nil]; exact rr) rfl rfl
            rw [har] at r2
            have run : ∀ {A : Around}, Room k A → A.frames = X.A.frames → wpAny (model X.prog X.w) A (call (.ref f) [.ref p, v]) (fun z s' => z = .bool q ∧ ∃ I' H', Ex I H I' H' ∧ Inv X pins σ H' s') X.xe s := fun {A} hr fr => by
              have e0 : Env0 X.prog X.w X.K X.mg X.base A X.stack s H := by
                have e := J.env0
                exact ⟨by rw [fr]; exact e.frames, e.mod, e.bs, e.bsz, e.funs, e.frf, e.hok, e.bare⟩
              refine wpAny_call (codeAny_mono (F.run A X.stack s H ⟨[.ref p, v], []⟩ _ _ _ _ hr e0 b2 r2 hsp) fun r s' hq => ?_)
              cases r with
              | error z => exact tk pins σ H s z s' J hq
              | ok fl =>
                cases fl with
                | ret z =>
                  obtain ⟨z', H', J', rz, ez, I', ex⟩ := J.after hq
                  subst ez
                  exact ⟨rz, I', H', ex, J'⟩
                | _ => exact False.elim hq
            cases neg with
            | true =>
              subst hop
              show wpAny (model X.prog X.w) X.A (richCompare .NotEq (.ref p) v) (EP X pins σ Q) X.xe s
              refine own_ne (by have := hk.un; omega) hF J.ok.mod.kin O2 tyb hnt hN hE hf hmr (wpAny_mono (run hk.in1 rfl) (fun z s' hz => ?_) fun _ _ z => z)
              obtain ⟨rfl, I', H', ex, J'⟩ := hz
              exact ⟨q, rfl, .bl (!q), H', J', rfl, hQ I' H' ex⟩
            | false =>
              subst hop
              show wpAny (model X.prog X.w) X.A (richCompare .Eq (.ref p) v) (EP X pins σ Q) X.xe s
              refine PySem.W.cmp_K (op := .Eq) hk.units0 hF J.ok.mod.kin O2 tyb hnt hE hf (wpAny_mono (run (hk.mono (Nat.le_succ _)) rfl) (fun z s' hz => ?_) fun _ _ z => z)
              obtain ⟨rfl, I', H', ex, J'⟩ := hz
              exact ⟨.bl q, H', J', rfl, hQ I' H' ex⟩
          | _ => cases e1
        · cases e
      · cases e
    · cases e
  · obtain ⟨q, e1, rfl⟩ := Option.map_eq_some_iff.mp e
    exact ⟨I, a, b, q, l, e1, rx, ry, fun I' H' ex => k I' H' _ ex (R_bl.mpr rfl)⟩
/-- == of data and of instances -/
def dEqG (tb : List ERow) (nf : List TN) (ins : List String) : D → D → Option D := dOr dEq fun a b => (dEqO tb nf ins a b).map .bl
def dNeG (tb : List ERow) (nf : List TN) (ins : List String) : D → D → Option D := dOr dNe fun a b => (dEqO tb nf ins a b).map fun q => .bl (!q)
theorem os_eqG (hu : X.A.units + 64 < cLine) (hk : Room (k + 1) X.A) (tk : Passes (L2.CX X.prog X.w) X (fun _ _ _ => False)) (T : KitT X.K kt ins) (S : ∀ r ∈ tb, ESite X.prog X.w X.K X.mg X.base k nf r) : OpS X (compareOp .Eq) (dEqG tb nf ins) :=
  OpS.or (os_eq hu) (own_call hk tk T S false rfl)
theorem os_neG (hu : X.A.units + 64 < cLine) (hk : Room (k + 1) X.A) (tk : Passes (L2.CX X.prog X.w) X (fun _ _ _ => False)) (T : KitT X.K kt ins) (S : ∀ r ∈ tb, ESite X.prog X.w X.K X.mg X.base k nf r) : OpS X (compareOp .NotEq) (dNeG tb nf ins) :=
  OpS.or (os_ne hu) (own_call hk tk T S true rfl)
end
end FL
set_option Elab.async false
set_option linter.all false
set_option maxRecDepth 100000
namespace FL
open PySem
open PySem.Spec
open L2
/-- a class's body -/
def clsB : Stmt → List Stmt
  | .ClassDef _ _ _ b _ _ _ _ _ _ _ => b
  | _ => []
def inB (s : Stmt) (i : Nat) : Stmt := (clsB s).getD i (.Pass ⟨0, 0, 0, 0⟩)
def ids {α : Type} (n : Nat) : List (Arg α) := (List.range n).map .inl
theorem arr_ids {α : Type} {z : α} {l : List α} {n : Nat} (h : l.length = n) : arr z (ids n) l = l := by
  unfold arr ids
  rw [List.map_map]
  apply List.ext_getElem?
  intro i
  rw [List.getElem?_map]
  by_cases hi : i < n
  · have hl : i < l.length := by omega
    rw [List.getElem?_range hi, List.getElem?_eq_getElem hl]
    show some (l.getD i z) = _
    rw [List.getD_eq_getElem?_getD, List.getElem?_eq_getElem hl]
    rfl
  · rw [List.getElem?_eq_none (by omega : l.length ≤ i), List.getElem?_eq_none (by rw [List.length_range]; omega)]
    rfl
theorem ids_rel {α β : Type} {F : α → β → Prop} : ∀ l : List Nat, Paired (SumR F) (l.map .inl) (l.map .inl)
  | [] => .nil
  | i :: l => .cons (show i = i from rfl) (ids_rel l)
section
variable {P : Program} {w : World} {K : PySem.W.Frag} {mg : Str → Option Value} {base : Heap} {k n : Nat} {qual : Str} {params : Arguments} {body : List Stmt} {scope : Scope} {fd : FuncData} {x : Str} {ps : List Str} {m : FM} {f : Addr} {dvs : List V} {kws : List (Str × V)}
/-- a def's core: what lies there, what it promises -/
def Core (P : Program) (w : World) (K : PySem.W.Frag) (mg : Str → Option Value) (base : Heap) (f : Addr) (x qual : Str) (params : Arguments) (body : List Stmt) (scope : Scope) (dvs : List V) (kws : List (Str × V)) (k : Nat) (ps : List Str) (m : FM) : Prop :=
  ∃ fd, FunD K x qual params body scope dvs kws f fd ∧ FnOk P w K mg base (L2.CX P w) k f fd ps (spF K m)
theorem core_mk {N : List Str} {c : MS} (F : FunD K x qual params body scope dvs kws f fd) (S : FnScope N ps scope)
    (hb : ∀ (cdv : Value) (A : Around) (outer : List Env) (s : Shared) (H : Hp) (E : XK), Room k (A.deeper (PyProof.Rows.envOfC qual scope s.heap.objs.size f cdv)) → SB (cxOf (L2.CX P w) P w K mg base N qual scope f cdv A outer s H E) (wDef E) body c) :
    Core P w K mg base f x qual params body scope dvs kws (k + 1) ps (mkF ps.length N.length c) := ⟨fd, F, fn_ok F S hb⟩
theorem core_zero (F : FunD K x qual params body scope dvs kws f fd) : Core P w K mg base f x qual params body scope dvs kws k ps (fun _ => none) :=
  ⟨fd, F, ⟨fun vs H Q E h => by obtain ⟨_, _, _, _, h⟩ := h; exact h.elim, fun A outer s H args us vs Q E hr he hb hv h => by obtain ⟨_, _, _, _, h⟩ := h; exact h.elim⟩⟩
/-- every parameter is written -/
theorem site_all (C : Core P w K mg base f x qual params body scope [] [] k ps m) (hn : n = ps.length)
    (hbn : ∀ (kV doc pm : Value) (an : Option Addr) (cdv ct : Value) (us : List Value), us.length = ps.length → bindArgs (PySem.W.fnOf x qual params body scope .none kV doc pm an cdv ct) ⟨us, []⟩ = pure (ps.zip us)) : Site P w K mg base f k n [] m (ids n) := by
  obtain ⟨fd, F, G⟩ := C
  refine ⟨fd, ps, ids n, G, Bd.of_binds (F.bindsN hbn) .nil (by rw [List.length_nil, hn, Nat.add_zero]) fun vs l => ?_, ids_rel _⟩
  rw [List.append_nil, arr_ids l]
/-- a function's site, of every length, with the address -/
def Fsite (P : Program) (w : World) (K : PySem.W.Frag) (mg : Str → Option Value) (base : Heap) (x : String) (k n : Nat) (ks : List Str) (m : FM) (dpm : List (Arg D)) : Prop :=
  ∃ f : Addr, Site P w K mg base f k n ks m dpm ∧ mg (Str.ofString x) = some (.ref f) ∧ PySem.W.keepIn K (.ref f) = true
theorem fsite_mk {x : String} {dpm : List (Arg D)} {ks : List Str} (C : Core P w K mg base f (Str.ofString x) qual params body scope dvs kws k ps m) (S : Site P w K mg base f k n ks m dpm) (hm : mg (Str.ofString x) = some (.ref f)) : Fsite P w K mg base x k n ks m dpm := by
  obtain ⟨fd, F, _⟩ := C
  exact ⟨f, S, hm, F.kp⟩
theorem Fsite.mono {x : String} {dpm : List (Arg D)} {ks : List Str} {j : Nat} (h : Fsite P w K mg base x j n ks m dpm) (hk : j ≤ k) : Fsite P w K mg base x k n ks m dpm := by
  obtain ⟨f, S, h1, h2⟩ := h
  exact ⟨f, S.mono hk, h1, h2⟩
theorem MSite.mono {name : String} {ks : List Str} {r : MRow} {j : Nat} (h : MSite P w K mg base name j n ks r) (hk : j ≤ k) : MSite P w K mg base name k n ks r := by
  obtain ⟨f, c, hm, S⟩ := h
  exact ⟨f, c, hm, S.mono hk⟩
theorem CSite.mono {C : String} {ks : List Str} {dpm : List (Arg D)} {j : Nat} (h : CSite P w K mg base C j n ks m dpm) (hk : j ≤ k) : CSite P w K mg base C k n ks m dpm := by
  obtain ⟨f, M, S⟩ := h
  exact ⟨f, M, S.mono hk⟩
theorem ESite.mono {nf : List TN} {r : ERow} {j : Nat} (h : ESite P w K mg base j nf r) (hk : j ≤ k) : ESite P w K mg base k nf r := by
  obtain ⟨f, S, h⟩ := h
  exact ⟨f, S.mono hk, h⟩
theorem XSite.mono {C g : String} {j : Nat} (h : XSite P w K mg base C g j) (hk : j ≤ k) : XSite P w K mg base C g k := by
  obtain ⟨b, fI, fd, ps, h1, h2, h3, F, h4⟩ := h
  exact ⟨b, fI, fd, ps, h1, h2, h3, F.mono hk, h4⟩
theorem one_row {r0 : MRow} {p : MRow → Prop} (h : p r0) : ∀ r ∈ [r0], p r := fun r hr => by
  rw [List.mem_singleton.mp hr]
  exact h
theorem one_er {r0 : ERow} {p : ERow → Prop} (h : p r0) : ∀ r ∈ [r0], p r := fun r hr => by
  rw [List.mem_singleton.mp hr]
  exact h
end
section
variable {X : Cx} {W : WX} {pos p : Pos} {k n : Nat} {ks : List Str} {m : FM} {dpm : List (Arg D)} {x : String} {es : List Expr} {kws : List Keyword} {ca : M (List AR)}
theorem se_fsite (F : Fsite X.prog X.w X.K X.mg X.base x k n ks m dpm) (hr : Room k X.A) (tk : Takes X W) (hg : Gl X (Str.ofString x)) (ha : SC X W pos es kws n ks ca) (hdb : (Str.ofString x == ("__debug__" : Str)) = false := by decide +kernel) :
    SE X W (.Call (.Name (Str.ofString x) p) es kws pos) (ca.bind fun ars => callS (fun r => some (rvD r)) m dpm (n + ks.length) ars) := by
  obtain ⟨f, S, hm, hk⟩ := F
  exact se_site S hm hk hr tk hg ha hdb
theorem sef_fsite (F : Fsite X.prog X.w X.K X.mg X.base x k n ks m dpm) (hr : Room k X.A) (tk : Takes X W) (hg : Gl X (Str.ofString x)) (ha : SC X W pos es kws n ks ca) (hdb : (Str.ofString x == ("__debug__" : Str)) = false := by decide +kernel) :
    SEF X W (.Call (.Name (Str.ofString x) p) es kws pos) (ca.bind fun ars => callS frC m dpm (n + ks.length) ars) := by
  obtain ⟨f, S, hm, hk⟩ := F
  exact sef_site S hm hk hr tk hg ha hdb
end
def oxF (C : String) (b : XB) (K : PySem.W.Frag) : Bool := PySem.W.excInitIn K (cad K C) b.mro b.new && (PySem.W.excOver K (cad K C) b.mro && (PySem.W.hasDictIn K (cad K C) && (He.eqO (PySem.W.findIn K (.ref (cad K C)) "__setattr__") (some (some (.builtin "object.__setattr__"))) &&
  (decide (PySem.W.subIn K (.ref (cad K C)) (.type "BaseException") = some true) && (decide (PySem.W.typeIn K (.ref (cad K C)) = some (.type "type")) && PySem.W.keepIn K (.ref (cad K C)))))))
def viF (b : XB) (K : PySem.W.Frag) : Bool := match PySem.W.findCls K (.type b.nm) (.type "type") "__init__" with
  | some (.val (.builtin n)) => decide (n = b.ini)
  | _ => false
def eqF (C : String) (nf : List TN) (K : PySem.W.Frag) : Bool := He.eqO (PySem.W.findIn K (.ref (cad K C)) "__ne__") (some (some (.builtin "object.__ne__"))) && (decide (PySem.W.mroIn K (cad K C) (.type "object") = some true) && nf.all fun t => PySem.W.notFirst K (cad K C) (tnV K t))
def ccF (C f : String) (d : D) (K : PySem.W.Frag) : Bool := PySem.W.readsIn K (cad K C) (.type "type") && (He.eqO (PySem.W.specialIn K (.ref (cad K C)) "__getattribute__") (some (some (.builtin "type.__getattribute__"))) &&
  (match PySem.W.findCls K (.ref (cad K C)) (.type "type") (Str.ofString f) with
    | some (.val u) => relDK K d u
    | _ => false))
section
variable {K : PySem.W.Frag} {C f : String} {b : XB} {nf : List TN} {d : D}
theorem oxF_ok (h : (Fx.raw (oxF C b)).ok K = true) : OxB K (cad K C) b := by
  obtain ⟨h1, h⟩ := and_tt (show oxF C b K = true from h)
  obtain ⟨h2, h⟩ := and_tt h
  obtain ⟨h3, h⟩ := and_tt h
  obtain ⟨h4, h⟩ := and_tt h
  obtain ⟨h5, h⟩ := and_tt h
  obtain ⟨h6, h7⟩ := and_tt h
  exact ⟨h1, h2, h3, He.eqO_ok h4, of_decide_eq_true h5, of_decide_eq_true h6, h7⟩
theorem viF_ok (h : (Fx.raw (viF b)).ok K = true) : PySem.W.findCls K (.type b.nm) (.type "type") "__init__" = some (.val (.builtin b.ini)) := by
  have h' : viF b K = true := h
  unfold viF at h'
  split at h'
  · rename_i n e
    rw [e, of_decide_eq_true h']
  · cases h'
theorem xfF_ok (h : (Fx.raw (fun K => xfB K (cad K C))).ok K = true) : XfC K (cad K C) := xfB_ok h
theorem eqF_ok (h : (Fx.raw (eqF C nf)).ok K = true) : PySem.W.findIn K (.ref (cad K C)) "__ne__" = some (some (.builtin "object.__ne__")) ∧ PySem.W.mroIn K (cad K C) (.type "object") = some true ∧ ∀ t ∈ nf, PySem.W.notFirst K (cad K C) (tnV K t) = true := by
  obtain ⟨h1, h⟩ := and_tt (show eqF C nf K = true from h)
  obtain ⟨h2, h3⟩ := and_tt h
  exact ⟨He.eqO_ok h1, of_decide_eq_true h2, fun t ht => List.all_eq_true.mp h3 t ht⟩
theorem ccF_ok (h : (Fx.raw (ccF C f d)).ok K = true) : ClX.CRead K (cad K C) (.type "type") ∧ ∃ u v, ClX.CVal K (cad K C) (.type "type") (Str.ofString f) v u ∧ R K (fun _ => none) d v := by
  obtain ⟨h1, h⟩ := and_tt (show ccF C f d K = true from h)
  obtain ⟨h2, h3⟩ := and_tt h
  refine ⟨⟨h1, He.eqO_ok h2⟩, ?_⟩
  split at h3
  · rename_i u e
    obtain ⟨v, r1, r2⟩ := relDK_ok (I := fun _ => none) d u h3
    exact ⟨u, v, ⟨e, r1⟩, r2⟩
  · cases h3
end
/-- C.f, a constant of a class, by the class -/
def mCls (C : String) (d : D) (ca : M D) : M D := ca.bind fun x => M.opt (match x with
  | .cls C' => if C' = C then some d else none
  | _ => none)
theorem se_ccon {X : Cx} {W : WX} {e : Expr} {pos : Pos} {C f : String} {d : D} {ca : M D} (h : (Fx.raw (ccF C f d)).ok X.K = true) (ha : SE X W e ca) (hb : attributeBase e (Str.ofString f) X.env (eval e X.env) = eval e X.env := by rfl) : SE X W (.Attribute e (Str.ofString f) pos) (mCls C d ca) := by
  obtain ⟨r, u, v, k, rv⟩ := ccF_ok h
  obtain ⟨ta, pa, sa⟩ := ha
  refine ⟨_, ClX.pe_cval pa hb, fun σ ev I H Q rel h => ?_⟩
  refine sa σ ev I H _ rel ((Post.bind h).imp fun x ev1 I1 H1 s1 r1 h1 vx rx => ?_)
  obtain ⟨d', e1, q⟩ := Post.opt h1
  cases x with
  | cls C' =>
    simp only at e1
    split at e1
    · rename_i hC
      cases e1
      subst hC
      exact ⟨_, _, v, u, R_cls.mp rx, r, k, q I1 H1 (Step.refl ..) r1 v (R.mono (fun _ _ z => by cases z) _ _ rv)⟩
    · cases e1
  | _ => cases e1
/-- an own exception class's site, by its __init__ -/
theorem xsite_mk {P : Program} {w : World} {K : PySem.W.Frag} {mg : Str → Option Value} {base : Heap} {qual : Str} {params : Arguments} {body : List Stmt} {scope : Scope} {C f : String} {fI : Addr} {fd : FuncData} {b : XB} {ps : List Str}
    (F : FunD K "__init__" qual params body scope [] [] fI fd) (T : OxB K (cad K C) b) (hm : Meth K (cad K C) "__init__" fI) (G : FnOk P w K mg base (L2.CX P w) 1 fI fd ps (spX (cad K C) (Str.ofString f))) (hg : mg (Str.ofString C) = some (.ref (cad K C)))
    (hbn : ∀ (kV doc pm : Value) (an : Option Addr) (cdv ct : Value) (us : List Value), us.length = ps.length → bindArgs (PySem.W.fnOf "__init__" qual params body scope .none kV doc pm an cdv ct) ⟨us, []⟩ = pure (ps.zip us)) : XSite P w K mg base C f 1 :=
  ⟨b, fI, fd, ps, T, hm.at_, beq_iff_eq.mp hm.fn, G, F.bindsN hbn, hg⟩
end FL
set_option Elab.async false
set_option linter.all false
set_option maxRecDepth 100000
namespace FL
open PySem
open PySem.Spec
open L2
/-- a scope with marks -/
def mkScM (l : List (String × Nat)) (m : List (String × String)) : Scope := { kind := .function, names := l.map fun p => (Str.ofString p.1, kindNo p.2), isGenerator := false, isCoroutine := false, more := m.map fun p => (Str.ofString p.1, .str (Str.ofString p.2)) }
theorem all_nil {α : Type} {p : α → Prop} : ∀ r ∈ ([] : List α), p r := fun r hr => by cases hr
theorem all_cons {α : Type} {p : α → Prop} {x : α} {l : List α} (h : p x) (t : ∀ r ∈ l, p r) : ∀ r ∈ x :: l, p r := fun r hr => by
  rcases List.mem_cons.mp hr with e | e
  · rw [e]
    exact h
  · exact t r e
theorem at_nil {K : PySem.W.Frag} {f : String} : AtT K f [] := ⟨all_nil, all_nil⟩
theorem at_cons {K : PySem.W.Frag} {f C : String} {cs : List String} (h : Cls K (cad K C)) (n : NoAttr K (cad K C) (Str.ofString f)) (t : AtT K f cs) : AtT K f (C :: cs) := ⟨all_cons h t.cl, all_cons n t.no⟩
theorem lkX_eq : ∀ {xt : List (String × String × Bool)} {x C : String}, (xt.all fun r => !r.2.2 || r.1 == r.2.1) = true → lkX xt x C = some true → x = C
  | [], x, C, _, h => by cases h
  | r :: xt, x, C, a, h => by
    unfold lkX at h
    rw [List.all_cons] at a
    obtain ⟨a1, a2⟩ := and_tt a
    split at h
    · rename_i q
      rw [Option.some.inj h] at a1
      rw [← q.1, ← q.2]
      exact eq_of_beq (by simpa using a1)
    · exact lkX_eq a2 h
theorem names_own {X : Cx} {C : String} (hg : Gl X (Str.ofString C)) (hm : X.mg (Str.ofString C) = some (.ref (cad X.K C))) (hd : (Str.ofString C == ("__debug__" : Str)) = false := by decide +kernel) : Names X (Str.ofString C) (.ref (cad X.K C)) := ⟨hg, hd, .inl hm⟩
theorem no_x {X : Cx} {W : WX} (tk : Takes X W) : Passes (L2.CX X.prog X.w) X (fun _ _ _ => False) := passes_call tk fun _ _ _ _ h => h.elim
theorem dfn_core {P : Program} {w : World} {K : PySem.W.Frag} {mg : Str → Option Value} {base : Heap} {k : Nat} {qual : Str} {params : Arguments} {body : List Stmt} {scope : Scope} {x : String} {ps : List Str} {m : FM} {f : Addr} (C : Core P w K mg base f (Str.ofString x) qual params body scope [] [] k ps m) (hm : mg (Str.ofString x) = some (.ref f))
    (hbn : ∀ (kV doc pm : Value) (an : Option Addr) (cdv ct : Value) (us : List Value), us.length = ps.length → bindArgs (PySem.W.fnOf (Str.ofString x) qual params body scope .none kV doc pm an cdv ct) ⟨us, []⟩ = pure (ps.zip us)) : Dfn P w K mg base x k m [] := by
  obtain ⟨fd, F, G⟩ := C
  exact ⟨f, fd, ps, [], [], G, hm, F.kp, F.bindsN hbn, .nil, Rs_nil.mpr rfl⟩
end FL
set_option Elab.async false
set_option linter.all false
set_option maxRecDepth 100000
namespace FL
open PySem
open PySem.Spec
open L2
theorem law_sp {K : PySem.W.Frag} {m : FM} {H : Hp} {a : Addr} {ns : List Int} {out : List SV} {E : XK} (hS : SqL K H a (ns.map V.int)) (e : m [.d (.lst (ns.map D.int))] = some (.ret (.d (.bl true)) out)) : spF K m [.ref a] H (fun v _ => v = .bl true) E := by
  refine ⟨[.d (.lst (ns.map D.int))], H, ⟨rfl, Le.refl _, fun i s h => ?_, fun i j s t p e1 e2 c1 c2 g1 g2 => ?_⟩, fun s hs => ?_, ?_⟩
  · obtain ⟨s', h', q⟩ := up_get.mp h
    cases q
    match i, h' with
    | 0, h' => cases h'; exact ⟨.ref a, rfl, R_lst.mpr ⟨a, _, rfl, hS, Rs.ints ns⟩⟩
  · obtain ⟨s', h', q⟩ := up_get.mp e1
    cases q
    match i, h' with
    | 0, h' => cases h'; cases c1
  · rw [List.mem_singleton.mp hs]
    rfl
  · rw [e]
    intro v I' H' st rl hv
    exact R_bl.mp (show R K I' (.bl true) v from hv)
/-- the law's def, as walk_ofE asks it -/
theorem law_end {P : Program} {w : World} {K : PySem.W.Frag} {h : Heap} {mg : Str → Option Value} {m : FM} {k : Nat} {qual : Str} {params : Arguments} {body : List Stmt} {scope : Scope} {fa : Addr} {x y : Str} (KX : K.In h) (hfa : mg x = some (.ref fa)) (hg : mg x = some (.ref (He.ga K x)))
    (C : ∀ base : Heap, Core P w K mg base (He.ga K x) x qual params body scope [] [] k [y] m)
    (hbn : ∀ (kV doc pm : Value) (an : Option Addr) (cdv ct : Value) (us : List Value), us.length = 1 → bindArgs (PySem.W.fnOf x qual params body scope .none kV doc pm an cdv ct) ⟨us, []⟩ = pure ([y].zip us))
    (hm : ∀ ns : List Int, ns.length ≤ 63 → ∃ out, m [.d (.lst (ns.map D.int))] = some (.ret (.d (.bl true)) out)) :
    ∃ (K : PySem.W.Frag) (fd : FuncData) (sp : Sp), K.In h ∧ (∀ (s : Shared) (u : Value), BindsTo s fd ⟨[u], []⟩ [(y, u)]) ∧
      (∀ (H : Hp) (a : Addr) (ns : List Int), ns.length ≤ 63 → Only H → SqL K H a (ns.map V.int) → sp [.ref a] H (fun v _ => v = .bl true) fun _ _ _ => False) ∧
      ∀ base : Heap, K.In base → base.Ns mainGlobals mg → FnOk P w K mg base (L2.CX P w) k fa fd [y] sp := by
  have e : fa = He.ga K x := by
    rw [hg] at hfa
    cases hfa
    rfl
  subst e
  obtain ⟨fd, F, _⟩ := C h
  refine ⟨K, fd, spF K m, KX, fun s u => F.bindsA (ps := [y]) hbn s [u] rfl, fun H a ns hl _ hS => ?_, fun base _ _ => ?_⟩
  · obtain ⟨out, e⟩ := hm ns hl
    exact law_sp hS e
  · obtain ⟨fd2, F2, G2⟩ := C base
    have ef : fd2 = fd := by
      obtain ⟨oc, od, dV, kV, doc, pm, an, cdv, ct, osl, e1, l1, _⟩ := F.ex
      obtain ⟨oc', od', dV', kV', doc', pm', an', cdv', ct', osl', e2, l2, _⟩ := F2.ex
      rw [l1] at l2
      have z := Option.some.inj l2
      injection z with z1 z2 z3 z4
      injection z3 with z5
      exact z5.symm
    rw [← ef]
    exact G2
/-- the way in: what is let out may lean on the world -/
theorem walk_in {l : PySem.W.OpenLaw} {k : Nat} {q : Program} {loose : List Str} {XP : (Str → Option Value) → Heap → Prop} {YP : World → Heap → Prop} {d : DefRec} {y : Str} (hn : l.most = some 63) (hdf : d.params.defaults = []) (hr : Room k callerA)
    (F : ∀ (w : World) (mg : Str → Option Value) (fa : Addr) (h : Heap), YP w h → h.Ns mainGlobals mg → mg d.name = some (.ref fa) →
      ∃ (K : PySem.W.Frag) (fd : FuncData) (sp : Sp), K.In h ∧ (∀ (s : Shared) (u : Value), BindsTo s fd ⟨[u], []⟩ [(y, u)]) ∧ (∀ (H : Hp) (a : Addr) (ns : List Int), ns.length ≤ 63 → Only H → SqL K H a (ns.map V.int) → sp [.ref a] H (fun v _ => v = .bl true) fun _ _ _ => False) ∧
        ∀ base : Heap, K.In base → base.Ns mainGlobals mg → FnOk l.prog w K mg base (L2.CX l.prog w) k fa fd [y] sp) : PySem.W.WalkO q loose XP YP l.row.toRowW d [] (fun f vs => PySem.call f vs) := by
  refine Att.attach_call hn hdf fun w s0 s1 mg mb fa o pm cd doc a vs ns G Y ho hd hcd hmg hobj hints hlen hg => ?_
  obtain ⟨K, fd, sp, KX, hb, hsp, hF⟩ := F w mg fa _ Y G.T.g hmg
  refine law_call KX G.T.g G.T.b G.T.builtins G.T.nolimit hg hobj hints (Nat.le_trans hlen (by decide)) hr hF hb (fun H hO hS => hsp H a ns hlen hO hS) fun H e s' hx => ?_
  obtain ⟨_, _, _, _, _, _, _, _, _, _, _, _, z⟩ := hx
  exact z
theorem cx_end {P : Program} {w : World} (H : Hp) (s : Shared) (e : Value) (s' : Shared) (h : L2.CX P w [] H s (fun _ _ _ => False) e s') : False := by
  obtain ⟨_, _, _, _, _, _, _, _, _, _, _, _, z⟩ := h
  exact z
end FL
set_option Elab.async false
set_option linter.all false
set_option maxRecDepth 100000
namespace FL
open PySem
open PySem.Spec
open L2
theorem compL_map {vs : List Nat} {gs : D → Ev → Option Ev} {ct : M Bool} {ce : M D} {ev : Ev} {h : D → D} : ∀ {xs acc : List D}, (∀ x ∈ xs, inner vs (gs x) (turnC ct ce) ev = some (.ok (some (h x)) ev)) → acc.length + xs.length ≤ sizeLine → compL vs gs ct ce xs acc ev = some (.ok (acc ++ xs.map h) ev)
  | [], acc, _, _ => by
    simp [compL, M.ret]
  | x :: xs, acc, hx, hl => by
    have h1 := hx x (List.mem_cons_self ..)
    have h2 : acc.length < sizeLine := by
      simp only [List.length_cons] at hl
      omega
    have ih := compL_map (xs := xs) (acc := acc ++ [h x]) (h := h) (fun y hy => hx y (List.mem_cons_of_mem _ hy)) (by simp only [List.length_append, List.length_cons, List.length_nil] at hl ⊢; omega)
    simp only [compL, M.bind, h1, h2, if_true]
    rw [ih]
    simp
theorem dIx_lst {xs : List D} {k : Nat} {x : D} (h : xs[k]? = some x) : dIx (.lst xs) (.int ((k : Nat) : Int)) = some x := by
  have hk : k < xs.length := (List.getElem?_eq_some_iff.mp h).1
  show L2.atI xs (k : Int) = some x
  unfold L2.atI L2.ixN
  have h0 : (0 : Int) ≤ (k : Int) := Int.natCast_nonneg k
  have h1 : (k : Int) < ((xs.length : Nat) : Int) := by exact_mod_cast hk
  rw [if_pos h0, if_pos h1]
  simpa using h
theorem dIx_tup {xs : List D} {k : Nat} {x : D} (h : xs[k]? = some x) : dIx (.tup xs) (.int ((k : Nat) : Int)) = some x := by
  have := dIx_lst h
  exact this
/-- a for over items, each turn of which goes on -/
theorem forL_inv {gs : D → Ev → Option Ev} {cb : MS} {J : Nat → Ev → Prop} : ∀ {xs : List D} {i : Nat} {ev : Ev}, J i ev → (∀ (k : Nat) (x : D) (ev : Ev), xs[k]? = some x → J (i + k) ev → ∃ ev1 ev2, gs x ev = some ev1 ∧ (cb ev1 = some (.nx ev2) ∨ cb ev1 = some (.ct ev2)) ∧ J (i + k + 1) ev2) →
    ∃ ev', forL gs cb xs ev = some (.nx ev') ∧ J (i + xs.length) ev'
  | [], i, ev, h, _ => ⟨ev, by simp [forL], h⟩
  | x :: xs, i, ev, h, t => by
    obtain ⟨ev1, ev2, h1, h2, h3⟩ := t 0 x ev rfl h
    obtain ⟨ev', e, j⟩ := forL_inv (xs := xs) (i := i + 1) (ev := ev2) h3 fun k y ev hy hj => by
      have := t (k + 1) y ev (by simpa using hy) (by rw [show i + (k + 1) = i + 1 + k by omega]; exact hj)
      rw [show i + 1 + k + 1 = i + (k + 1) + 1 by omega]
      exact this
    refine ⟨ev', ?_, by rw [List.length_cons, show i + (xs.length + 1) = i + 1 + xs.length by omega]; exact j⟩
    simp only [forL, h1]
    rcases h2 with h2 | h2 <;> simp only [h2] <;> exact e
end FL
set_option Elab.async false
set_option linter.all false
set_option maxRecDepth 100000
namespace FL
open PySem
open PySem.Spec
open L2
def MtS0 (X : Cx) (id : String) (g : D → Option D) : Prop := ∃ r, MtR X id r ∧
  ∀ (I H : Hp) (a : D) (x : V) (d : D) (Q : VK), Le I H → g a = some d → R X.K I a x → (∀ I' H' v, Ex I H I' H' → R X.K I' d v → Q v H') → r x [] H Q
def MtS1 (X : Cx) (id : String) (g : D → D → Option D) : Prop := ∃ r, MtR X id r ∧
  ∀ (I H : Hp) (a b : D) (x y : V) (d : D) (Q : VK), Le I H → g a b = some d → R X.K I a x → R X.K I b y → (∀ I' H' v, Ex I H I' H' → R X.K I' d v → Q v H') → r x [y] H Q
def mM0 (g : D → Option D) (co : M D) : M D := co.bind fun x => match x with
  | .str z => M.opt (g (.str z))
  | _ => M.fail
def mM1 (g : D → D → Option D) (co ce : M D) : M D := co.bind fun x => match x with
  | .str z => ce.bind fun y => M.opt (g (.str z) y)
  | _ => M.fail
theorem Rs.strs {K : PySem.W.Frag} {I : Hp} : ∀ (ys : List Str), Rs K I (ys.map D.str) (ys.map V.str)
  | [] => Rs_nil.mpr rfl
  | n :: ns => Rs_cons.mpr ⟨_, _, rfl, R_str.mpr rfl, Rs.strs ns⟩
/-- data that is texts -/
def strsD : List D → Option (List Str)
  | [] => some []
  | .str z :: r => (strsD r).map (z :: ·)
  | _ => none
theorem strsD_map : ∀ (ys : List Str), strsD (ys.map D.str) = some ys
  | [] => rfl
  | y :: ys => by simp [strsD, strsD_map ys]
theorem strsD_ok {K : PySem.W.Frag} {I : Hp} : ∀ {ds : List D} {ys : List Str} {vs : List V}, strsD ds = some ys → Rs K I ds vs → vs = ys.map V.str
  | [], bs, vs, e, r => by
    cases e
    rw [Rs_nil.mp r]
    rfl
  | d :: ds, bs, vs, e, r => by
    obtain ⟨v, w, rfl, h1, h2⟩ := Rs_cons.mp r
    cases d with
    | str q =>
      simp only [strsD] at e
      obtain ⟨bs', e1, rfl⟩ := Option.map_eq_some_iff.mp e
      rw [R_str.mp h1, strsD_ok e1 h2]
      rfl
    | _ => simp [strsD] at e
section
variable {X : Cx} {W : WX} {o e : Expr} {es : List Expr} {name : Str} {apos pos p : Pos} {x : Str}
theorem se_m0 {id : String} {g : D → Option D} {co : M D} (slot : Slot "str" name id) (ty : typeOf (.builtin id) = pure (.type "method_descriptor")) (hm : MtS0 X id g) (ho : SE X W o co)
    (hbase : attributeBase o name X.env (eval o X.env) = eval o X.env := by rfl) (hline : (apos.endLine == pos.line) = true := by rfl) : SE X W (.Call (.Attribute o name apos) [] [] pos) (mM0 g co) := by
  obtain ⟨r, hm, hg⟩ := hm
  obtain ⟨to, po, so⟩ := ho
  refine ⟨_, pe_m0 slot ty hm po hbase hline, fun σ ev I H Q rel h => ?_⟩
  refine so σ ev I H _ rel ((Post.bind h).imp fun z ev1 I1 H1 s1 r1 h1 vx rx => ?_)
  cases z with
  | str z =>
    obtain ⟨d, e1, k⟩ := Post.opt h1
    exact ⟨⟨z, R_str.mp rx⟩, hg I1 H1 _ vx d Q r1.sub e1 rx fun I' H' v ex rv => k I' H' ex.step (r1.ex ex) v rv⟩
  | _ => exact h1.elim
theorem se_m1 {id : String} {g : D → D → Option D} {co ce : M D} (slot : Slot "str" name id) (ty : typeOf (.builtin id) = pure (.type "method_descriptor")) (hm : MtS1 X id g) (ho : SE X W o co) (he : SE X W e ce)
    (hs : starEach [e] X.env = [(false, eval e X.env)] := by rfl) (hbase : attributeBase o name X.env (eval o X.env) = eval o X.env := by rfl) (hline : (apos.endLine == pos.line) = true := by rfl) :
    SE X W (.Call (.Attribute o name apos) [e] [] pos) (mM1 g co ce) := by
  obtain ⟨r, hm, hg⟩ := hm
  obtain ⟨to, po, so⟩ := ho
  obtain ⟨te, pe, se⟩ := he
  refine ⟨_, pe_m1 slot ty hm po pe hs hbase hline, fun σ ev I H Q rel h => ?_⟩
  refine so σ ev I H _ rel ((Post.bind h).imp fun z ev1 I1 H1 s1 r1 h1 vx rx => ?_)
  cases z with
  | str z =>
    refine ⟨⟨z, R_str.mp rx⟩, se σ ev1 I1 H1 _ r1 ((Post.bind h1).imp fun y ev2 I2 H2 s2 r2 h2 vy ry => ?_)⟩
    obtain ⟨d, e1, k⟩ := Post.opt h2
    exact hg I2 H2 _ y vx vy d Q r2.sub e1 (R.mono s2.le _ _ rx) ry fun I' H' v ex rv => k I' H' ex.step (r2.ex ex) v rv
  | _ => exact h1.elim
def dSplit : D → D → Option D
  | .str a, .str b => if (b.length == 0) = false ∧ a.length + 2 ≤ sizeLine then some (.lst ((Txt.split a b).map .str)) else none
  | _, _ => none
theorem ms_split : MtS1 X "str.split" dSplit := by
  refine ⟨_, mt_split, fun I H a b x y d Q l e rx ry k => ?_⟩
  unfold dSplit at e
  split at e
  · rename_i a b
    split at e
    · rename_i hc
      cases e
      refine ⟨a, b, R_str.mp rx, by rw [R_str.mp ry], hc.1, hc.2, fun p hp => ?_⟩
      have ex := Ex.alloc (o := HO.lst ((Txt.split a b).map V.str)) l hp
      exact k _ _ _ ex (R_lst.mpr ⟨p, _, rfl, SqL.of upd_same, Rs.strs _⟩)
    · cases e
  · cases e
def dPartition : D → D → Option D
  | .str a, .str b => if (b.length == 0) = false ∧ a.length ≤ sizeLine then some (.tup [.str (Txt.partition a b).1, .str (Txt.partition a b).2.1, .str (Txt.partition a b).2.2]) else none
  | _, _ => none
theorem ms_partition : MtS1 X "str.partition" dPartition := by
  refine ⟨_, mt_partition, fun I H a b x y d Q l e rx ry k => ?_⟩
  unfold dPartition at e
  split at e
  · rename_i a b
    split at e
    · rename_i hc
      cases e
      refine ⟨a, b, R_str.mp rx, by rw [R_str.mp ry], hc.1, hc.2, fun p hp => ?_⟩
      have ex := Ex.alloc (o := HO.tup [V.str (Txt.partition a b).1, V.str (Txt.partition a b).2.1, V.str (Txt.partition a b).2.2]) l hp
      exact k _ _ _ ex (R_tup.mpr ⟨p, _, rfl, SqT.of upd_same, Rs.strs [(Txt.partition a b).1, (Txt.partition a b).2.1, (Txt.partition a b).2.2]⟩)
    · cases e
  · cases e
def joinOk (a : Str) (ys : List Str) : Prop := (ys.map (·.length)).sum + ys.length * a.length ≤ 16777216
instance (a : Str) (ys : List Str) : Decidable (joinOk a ys) := inferInstanceAs (Decidable (_ ≤ _))
def dJoin : D → D → Option D
  | .str a, .lst ds => (strsD ds).bind fun ys => if joinOk a ys then some (.str (Txt.join a ys)) else none
  | .str a, .tup ds => (strsD ds).bind fun ys => if joinOk a ys then some (.str (Txt.join a ys)) else none
  | _, _ => none
theorem ms_join : MtS1 X "str.join" dJoin := by
  refine ⟨_, mt_join, fun I H a b x y d Q l e rx ry k => ?_⟩
  cases a with
  | str a =>
    cases b with
    | lst ds =>
      obtain ⟨ys, e1, e2⟩ := Option.bind_eq_some_iff.mp e
      split at e2
      · rename_i hc
        cases e2
        obtain ⟨p, vs, rfl, h1, h2⟩ := R_lst.mp ry
        rw [strsD_ok e1 h2] at h1
        exact ⟨a, p, ys, R_str.mp rx, rfl, .inl (l.sqL h1), hc, k I H _ (Ex.refl l) (R_str.mpr rfl)⟩
      · cases e2
    | tup ds =>
      obtain ⟨ys, e1, e2⟩ := Option.bind_eq_some_iff.mp e
      split at e2
      · rename_i hc
        cases e2
        obtain ⟨p, vs, rfl, h1, h2⟩ := R_tup.mp ry
        rw [strsD_ok e1 h2] at h1
        exact ⟨a, p, ys, R_str.mp rx, rfl, .inr (l.sqT h1), hc, k I H _ (Ex.refl l) (R_str.mpr rfl)⟩
      · cases e2
    | _ => cases e
  | _ => cases e
def dUpper : D → Option D
  | .str a => if a.length ≤ 5592405 then some (.str (Txt.upper a)) else none
  | _ => none
theorem ms_upper : MtS0 X "str.upper" dUpper := by
  refine ⟨_, mt_upper, fun I H a x d Q l e rx k => ?_⟩
  unfold dUpper at e
  split at e
  · split at e
    · rename_i hc
      cases e
      exact ⟨_, R_str.mp rx, rfl, hc, k I H _ (Ex.refl l) (R_str.mpr rfl)⟩
    · cases e
  · cases e
def dRemovePre : D → D → Option D
  | .str a, .str b => if a.length ≤ sizeLine then some (.str (Txt.removeprefix a b)) else none
  | _, _ => none
theorem ms_removeprefix : MtS1 X "str.removeprefix" dRemovePre := by
  refine ⟨_, mt_removeprefix, fun I H a b x y d Q l e rx ry k => ?_⟩
  unfold dRemovePre at e
  split at e
  · split at e
    · rename_i hc
      cases e
      exact ⟨_, _, R_str.mp rx, by rw [R_str.mp ry], hc, k I H _ (Ex.refl l) (R_str.mpr rfl)⟩
    · cases e
  · cases e
def dCount : D → D → Option D
  | .str a, .str b => some (.int (Txt.count a b))
  | _, _ => none
theorem ms_count : MtS1 X "str.count" dCount := by
  refine ⟨_, mt_count, fun I H a b x y d Q l e rx ry k => ?_⟩
  unfold dCount at e
  split at e
  · cases e
    exact ⟨_, _, R_str.mp rx, by rw [R_str.mp ry], k I H _ (Ex.refl l) (R_int.mpr rfl)⟩
  · cases e
def OptS (X : Cx) (W : WX) (eo : Option Expr) (c : M (Option Int)) : Prop := ∃ t, PO X eo t ∧ ∀ (σ : St) (ev : Ev) (I H : Hp) (Q : Option Int → Hp → Prop), Rel X.K σ ev I H → Post X.K W c σ ev I H (fun i _ _ H' => Q i H') → t σ H Q
def mNoPart : M (Option Int) := M.ret none
def mPart (ce : M D) : M (Option Int) := ce.bind fun x => match x with
  | .int i => M.ret (some i)
  | _ => M.fail
theorem so_none : OptS X W none mNoPart := ⟨_, po_none, fun σ ev I H Q rel h => Post.ret (α := Option Int) rel h⟩
theorem so_some {ce : M D} (he : SE X W e ce) : OptS X W (some e) (mPart ce) := by
  obtain ⟨te, pe, se⟩ := he
  refine ⟨_, po_some pe, fun σ ev I H Q rel h => ?_⟩
  refine se σ ev I H _ rel ((Post.bind h).imp fun y ev1 I1 H1 s1 r1 h1 vy ry => ?_)
  cases y with
  | int i => exact ⟨i, R_int.mp ry, Post.ret (α := Option Int) r1 h1⟩
  | _ => exact h1.elim
def cutD (xs : List D) (lo hi : Option Int) : List D := (xs.drop (HT.sIx xs.length 0 lo)).take (HT.sIx xs.length xs.length hi - HT.sIx xs.length 0 lo)
theorem Rs.drop {K : PySem.W.Frag} {I : Hp} : ∀ {ds : List D} {vs : List V} (n : Nat), Rs K I ds vs → Rs K I (ds.drop n) (vs.drop n)
  | _, _, 0, h => h
  | [], _, n + 1, h => by rw [Rs_nil.mp h]; exact Rs_nil.mpr rfl
  | x :: xs, vs, n + 1, h => by
    obtain ⟨v, r, rfl, h1, h2⟩ := Rs_cons.mp h
    exact Rs.drop n h2
theorem Rs.take {K : PySem.W.Frag} {I : Hp} : ∀ {ds : List D} {vs : List V} (n : Nat), Rs K I ds vs → Rs K I (ds.take n) (vs.take n)
  | _, _, 0, h => by rw [List.take_zero, List.take_zero]; exact Rs_nil.mpr rfl
  | [], _, n + 1, h => by rw [Rs_nil.mp h]; exact Rs_nil.mpr rfl
  | x :: xs, vs, n + 1, h => by
    obtain ⟨v, r, rfl, h1, h2⟩ := Rs_cons.mp h
    exact Rs_cons.mpr ⟨v, _, rfl, h1, Rs.take n h2⟩
theorem Rs.cut {K : PySem.W.Frag} {I : Hp} {ds : List D} {vs : List V} (h : Rs K I ds vs) (lo hi : Option Int) : Rs K I (cutD ds lo hi) (cutV vs lo hi) := by
  unfold cutD cutV
  rw [h.length]
  exact (h.drop _).take _
def dSl : D → Option Int → Option Int → Option D
  | .str z, lo, hi => if z.length ≤ sizeLine then some (.str (cutS z lo hi)) else none
  | .lst xs, lo, hi => some (.lst (cutD xs lo hi))
  | .tup xs, lo, hi => some (.tup (cutD xs lo hi))
  | _, _, _ => none
def mSl (co : M D) (cl ch : M (Option Int)) : M D := co.bind fun x => cl.bind fun l => ch.bind fun h => M.opt (dSl x l h)
theorem se_slice {lo hi : Option Expr} {p2 : Pos} {co : M D} {cl ch : M (Option Int)} (ho : SE X W o co) (hl : OptS X W lo cl) (hh : OptS X W hi ch) : SE X W (.Subscript o (.Slice lo hi none p2) pos) (mSl co cl ch) := by
  obtain ⟨to, po, so⟩ := ho
  obtain ⟨tl, pl, sl⟩ := hl
  obtain ⟨th, ph, sh⟩ := hh
  refine ⟨_, pe_slice ((L2.SlR.or sl_str (L2.SlR.or sl_list sl_tupA))) po pl ph, fun σ ev I H Q rel h => ?_⟩
  refine so σ ev I H _ rel ((Post.bind h).imp fun x ev1 I1 H1 s1 r1 h1 vx rx => ?_)
  refine sl σ ev1 I1 H1 _ r1 ((Post.bind h1).imp fun l ev2 I2 H2 s2 r2 h2 => ?_)
  refine sh σ ev2 I2 H2 _ r2 ((Post.bind h2).imp fun u ev3 I3 H3 s3 r3 h3 => ?_)
  obtain ⟨d, e1, k⟩ := Post.opt h3
  have rx3 := R.mono (s2.le.trans s3.le) _ _ rx
  cases x with
  | str z =>
    simp only [dSl] at e1
    split at e1
    · rename_i hz
      cases e1
      exact .inl ⟨z, R_str.mp rx, hz, k I3 H3 (Step.refl ..) r3 _ (R_str.mpr rfl)⟩
    · cases e1
  | lst xs =>
    cases e1
    obtain ⟨q, vs, rfl, h1, h2⟩ := R_lst.mp rx3
    refine .inr (.inl ⟨q, vs, rfl, r3.sub.sqL h1, fun t ht => ?_⟩)
    have ex := Ex.alloc (o := HO.lst (cutV vs l u)) r3.sub ht
    exact k _ _ ex.step (r3.ex ex) _ (R_lst.mpr ⟨t, _, rfl, SqL.of upd_same, Rs.mono ex.le _ _ (h2.cut l u)⟩)
  | tup xs =>
    cases e1
    obtain ⟨q, vs, rfl, h1, h2⟩ := R_tup.mp rx3
    refine .inr (.inr ⟨q, vs, rfl, r3.sub.sqT h1, fun hw => ?_, fun _ t ht => ?_⟩)
    · have : cutV vs l u = vs := by
        unfold cutV
        rw [hw.1, hw.2]
        simp
      exact k I3 H3 (Step.refl ..) r3 _ (R_tup.mpr ⟨q, _, rfl, h1, by have := h2.cut l u; rw [‹cutV vs l u = vs›] at this; exact this⟩)
    · have ex := Ex.alloc (o := HO.tup (cutV vs l u)) r3.sub ht
      exact k _ _ ex.step (r3.ex ex) _ (R_tup.mpr ⟨t, _, rfl, SqT.of upd_same, Rs.mono ex.le _ _ (h2.cut l u)⟩)
  | _ => cases e1
def scVs : List D → Option (List V)
  | [] => some []
  | d :: r => match scV d, scVs r with
    | some v, some vs => some (v :: vs)
    | _, _ => none
theorem scVs_ok {K : PySem.W.Frag} {I : Hp} : ∀ {ds : List D} {ws vs : List V}, scVs ds = some ws → Rs K I ds vs → vs = ws
  | [], ws, vs, e, r => by
    cases e
    exact Rs_nil.mp r
  | d :: ds, ws, vs, e, r => by
    obtain ⟨v, w, rfl, h1, h2⟩ := Rs_cons.mp r
    simp only [scVs] at e
    split at e
    · rename_i v0 vs0 e1 e2
      cases e
      rw [scV_rel e1 h1, scVs_ok e2 h2]
    · cases e
theorem scV_flat {d : D} {v : V} (h : scV d = some v) : flatV v = true := by
  cases d <;> first | (cases h; rfl) | cases h
theorem scVs_flat : ∀ {ds : List D} {vs : List V}, scVs ds = some vs → vs.all flatV = true
  | [], vs, e => by cases e; rfl
  | d :: ds, vs, e => by
    simp only [scVs] at e
    split at e
    · rename_i v0 vs0 e1 e2
      cases e
      rw [List.all_cons, scV_flat e1, scVs_flat e2]
      rfl
    · cases e
/-- x in y -/
def dIn0 : D → D → Option Bool
  | .str i, .str j => some (!(Builtin.Str.occurrences j i 0 j.length 1).isEmpty)
  | x, .lst ys => match scV x, scVs ys with
    | some v, some vs => some (inV v vs)
    | _, _ => none
  | x, .tup ys => match scV x, scVs ys with
    | some v, some vs => some (inV v vs)
    | _, _ => none
  | _, _ => none
def dIn (x y : D) : Option D := (dIn0 x y).map .bl
def dNotIn (x y : D) : Option D := (dIn0 x y).map fun q => .bl (!q)
theorem in_seq_ok {neg : Bool} {I H : Hp} {a b : D} {x y : V} {q : Bool} {Q : VK} (l : Le I H) (ys : List D) (hb : b = .lst ys ∨ b = .tup ys) (e : (match scV a, scVs ys with
    | some v, some vs => some (inV v vs)
    | _, _ => none) = some q) (rx : R X.K I a x) (ry : R X.K I b y) (k : Q (.bl (if neg then !q else q)) H) : rIn X.K neg x y H Q := by
  split at e
  · rename_i v vs e1 e2
    cases e
    have hx := scV_rel e1 rx
    subst hx
    rcases hb with rfl | rfl
    · obtain ⟨p, ws, rfl, h1, h2⟩ := R_lst.mp ry
      rw [scVs_ok e2 h2] at h1
      exact ⟨p, vs, rfl, .inl (l.sqL h1), scV_flat e1, scVs_flat e2, k⟩
    · obtain ⟨p, ws, rfl, h1, h2⟩ := R_tup.mp ry
      rw [scVs_ok e2 h2] at h1
      exact ⟨p, vs, rfl, .inr (l.sqT h1), scV_flat e1, scVs_flat e2, k⟩
  · cases e
theorem os_in : OpS X (compareOp .In) dIn := by
  refine ⟨_, op_in_str.or op_in_seq, fun I H a b x y d Q l e rx ry k => ?_⟩
  obtain ⟨q, e2, rfl⟩ := Option.map_eq_some_iff.mp e
  have kk := k I H (.bl q) (Ex.refl l) (R_bl.mpr rfl)
  cases b with
  | str j =>
    cases a with
    | str i => cases e2; exact .inl ⟨i, j, R_str.mp rx, R_str.mp ry, kk⟩
    | _ => cases e2
  | lst ys => exact .inr (in_seq_ok (neg := false) l ys (.inl rfl) (by cases a <;> exact e2) rx ry kk)
  | tup ys => exact .inr (in_seq_ok (neg := false) l ys (.inr rfl) (by cases a <;> exact e2) rx ry kk)
  | _ => cases a <;> cases e2
theorem os_notIn : OpS X (compareOp .NotIn) dNotIn := by
  refine ⟨_, op_notIn_str.or op_notIn_seq, fun I H a b x y d Q l e rx ry k => ?_⟩
  obtain ⟨q, e2, rfl⟩ := Option.map_eq_some_iff.mp e
  have kk := k I H (.bl (!q)) (Ex.refl l) (R_bl.mpr rfl)
  cases b with
  | str j =>
    cases a with
    | str i => cases e2; exact .inl ⟨i, j, R_str.mp rx, R_str.mp ry, kk⟩
    | _ => cases e2
  | lst ys => exact .inr (in_seq_ok (neg := true) l ys (.inl rfl) (by cases a <;> exact e2) rx ry kk)
  | tup ys => exact .inr (in_seq_ok (neg := true) l ys (.inr rfl) (by cases a <;> exact e2) rx ry kk)
  | _ => cases a <;> cases e2
def itemsX : D → Option (List D)
  | .lst xs => some xs
  | .tup xs => some xs
  | .str z => some (z.cps.toList.map fun c => .str ⟨#[c]⟩)
  | _ => none
def mItemsX (ca : M D) : M (List D) := ca.bind fun d => M.opt (itemsX d)
theorem itOk_str {K : PySem.W.Frag} {I : Hp} {z : Str} : ItOk K (Its z) (z.cps.toList.map fun c => .str ⟨#[c]⟩) I := fun I' H' l1 l2 => by
  refine ⟨fun i d e => ?_, by simp [Its]⟩
  rw [List.getElem?_map] at e
  obtain ⟨c, e1, rfl⟩ := Option.map_eq_some_iff.mp e
  have hi : i < z.cps.size := by simpa using (List.getElem?_eq_some_iff.mp e1).1
  refine ⟨hi, fun w H'' hy => ?_⟩
  obtain ⟨rfl, c', h1, rfl⟩ := hy
  have : c' = c := by
    have h2 : z.cps[i]? = some c := by simpa using e1
    rw [h2] at h1
    exact (Option.some.inj h1).symm
  subst this
  exact ⟨I', Ex.refl l2, R_str.mpr rfl⟩
theorem si_any {tg : Expr} {ca : M D} (ha : SE X W e ca) : SI X W tg e (mItemsX ca) := by
  obtain ⟨ta, pa, sa⟩ := ha
  refine ⟨_, PI.or (pi_list pa) (PI.or (pi_tup pa) (pi_str pa)), fun σ ev I H Q rel h => ?_⟩
  unfold Post mItemsX M.bind at h
  cases q : ca ev with
  | none => rw [q] at h; exact h.elim
  | some o =>
    cases o with
    | er x ev' =>
      refine .inl (sa σ ev I H _ rel ?_)
      rw [q] at h
      unfold Post
      rw [q]
      exact h
    | ok d ev1 =>
      rw [q] at h
      dsimp only [M.opt] at h
      cases d with
      | lst xs =>
        refine .inl (sa σ ev I H _ rel ?_)
        unfold Post
        rw [q]
        intro I1 H1 s1 r1 v rv
        obtain ⟨a, vs, rfl, h1, h2⟩ := R_lst.mp rv
        exact ⟨a, rfl, ⟨vs, r1.sub.sqL h1⟩, h I1 H1 s1 r1 _ (itOk_list h1 h2)⟩
      | tup xs =>
        refine .inr (.inl (sa σ ev I H _ rel ?_))
        unfold Post
        rw [q]
        intro I1 H1 s1 r1 v rv
        obtain ⟨a, vs, rfl, h1, h2⟩ := R_tup.mp rv
        exact ⟨a, rfl, ⟨vs, r1.sub.sqT h1⟩, h I1 H1 s1 r1 _ (itOk_tup h1 h2)⟩
      | str z =>
        refine .inr (.inr (sa σ ev I H _ rel ?_))
        unfold Post
        rw [q]
        intro I1 H1 s1 r1 v rv
        exact ⟨z, R_str.mp rv, h I1 H1 s1 r1 _ itOk_str⟩
      | _ => exact h.elim
def gInt1s : List D → Option D
  | [.int i] => some (.int i)
  | [.bl q] => some (.int (if q then 1 else 0))
  | [.str a] => if a.length ≤ 640 then (PySem.intText? a).map .int else none
  | _ => none
theorem CallR.or {f : Value} {r r' : List V → Hp → VK → Prop} (h : CallR X f r) (h' : CallR X f r') : CallR X f (fun vs H Q => r vs H Q ∨ r' vs H Q) := by
  intro pins s σ H xs us Q I rs q
  rcases q with q | q
  · exact h pins s σ H xs us Q I rs q
  · exact h' pins s σ H xs us Q I rs q
theorem cs_int1s : CallS X (.type "int") gInt1s := by
  refine ⟨_, CallR.or call_int1 call_int_str, fun I H ds vs d Q l e rs k => ?_⟩
  unfold gInt1s at e
  split at e
  · cases e
    obtain ⟨v, rfl, h⟩ := rs.one
    rw [R_int.mp h]
    exact .inl (.inl ⟨_, rfl, k I H _ (Ex.refl l) (R_int.mpr rfl)⟩)
  · cases e
    obtain ⟨v, rfl, h⟩ := rs.one
    rw [R_bl.mp h]
    exact .inl (.inr ⟨_, rfl, k I H _ (Ex.refl l) (R_int.mpr rfl)⟩)
  · split at e
    · rename_i hl
      obtain ⟨n, e1, rfl⟩ := Option.map_eq_some_iff.mp e
      obtain ⟨v, rfl, h⟩ := rs.one
      rw [R_str.mp h]
      exact .inr ⟨_, n, rfl, e1, hl, k I H _ (Ex.refl l) (R_int.mpr rfl)⟩
    · cases e
  · cases e
def gList1 : List D → Option D
  | [.lst xs] => some (.lst xs)
  | [.tup xs] => some (.lst xs)
  | _ => none
theorem cs_list1 : CallS X (.type "list") gList1 := by
  refine ⟨_, call_list_of, fun I H ds vs d Q l e rs k => ?_⟩
  unfold gList1 at e
  split at e
  · cases e
    obtain ⟨v, rfl, h⟩ := rs.one
    obtain ⟨p, ws, rfl, h1, h2⟩ := R_lst.mp h
    refine ⟨p, ws, rfl, .inl (l.sqL h1), fun t ht => ?_⟩
    have ex := Ex.alloc (o := HO.lst ws) l ht
    exact k _ _ _ ex (R_lst.mpr ⟨t, _, rfl, SqL.of upd_same, Rs.mono ex.le _ _ h2⟩)
  · cases e
    obtain ⟨v, rfl, h⟩ := rs.one
    obtain ⟨p, ws, rfl, h1, h2⟩ := R_tup.mp h
    refine ⟨p, ws, rfl, .inr (l.sqT h1), fun t ht => ?_⟩
    have ex := Ex.alloc (o := HO.lst ws) l ht
    exact k _ _ _ ex (R_lst.mpr ⟨t, _, rfl, SqL.of upd_same, Rs.mono ex.le _ _ h2⟩)
  · cases e
def gTuple1 : List D → Option D
  | [.lst xs] => some (.tup xs)
  | [.tup xs] => some (.tup xs)
  | _ => none
theorem cs_tuple1 : CallS X (.type "tuple") gTuple1 := by
  refine ⟨_, call_tuple_of, fun I H ds vs d Q l e rs k => ?_⟩
  unfold gTuple1 at e
  split at e
  · cases e
    obtain ⟨v, rfl, h⟩ := rs.one
    obtain ⟨p, ws, rfl, h1, h2⟩ := R_lst.mp h
    refine ⟨p, ws, rfl, .inl ⟨l.sqL h1, fun t ht => ?_⟩⟩
    have ex := Ex.alloc (o := HO.tup ws) l ht
    exact k _ _ _ ex (R_tup.mpr ⟨t, _, rfl, SqT.of upd_same, Rs.mono ex.le _ _ h2⟩)
  · cases e
    obtain ⟨v, rfl, h⟩ := rs.one
    obtain ⟨p, ws, rfl, h1, h2⟩ := R_tup.mp h
    exact ⟨p, ws, rfl, .inr ⟨l.sqT h1, k I H _ (Ex.refl l) h⟩⟩
  · cases e
end
end FL
set_option Elab.async false
set_option linter.all false
set_option maxRecDepth 100000
namespace FL
open PySem
open PySem.Spec
open L2
theorem un65 {k : Nat} {A : Around} (r : Room k A) : A.units + 65 < cLine := by
  have := r.un
  omega
section
variable {X : Cx} {W : WX} {a b e : Expr} {es : List Expr} {pos p : Pos} {x : Str}
def dInP (x y : D) : Option Bool := match toPy x, toPy y with
  | some d, some (.list ds) => if SeqAt.shaped d = true ∧ SeqAt.shaped (.list ds) = true then some (ds.any fun z => PyData.eqv z d) else none
  | _, _ => none
def dInD (x y : D) : Option D := (dInP x y).map .bl
def dNotInD (x y : D) : Option D := (dInP x y).map fun q => .bl (!q)
theorem dInP_some {x y : D} {q : Bool} (h : dInP x y = some q) : ∃ d ds, toPy x = some d ∧ toPy y = some (.list ds) ∧ SeqAt.shaped d = true ∧ SeqAt.shaped (.list ds) = true ∧ q = ds.any fun z => PyData.eqv z d := by
  unfold dInP at h
  split at h
  · rename_i d ds e1 e2
    split at h
    · rename_i hs
      cases h
      exact ⟨d, ds, e1, e2, hs.1, hs.2, rfl⟩
    · cases h
  · cases h
theorem os_inD (hu : X.A.units + 65 < cLine) : OpS X (compareOp .In) (dOr dIn dInD) := by
  refine os_in.or ⟨_, op_inD hu, fun I H a b x y d Q l e rx ry k => ?_⟩
  obtain ⟨q, e2, rfl⟩ := Option.map_eq_some_iff.mp e
  obtain ⟨v, ds, h1, h2, h3, h4, rfl⟩ := dInP_some e2
  exact ⟨v, ds, toPy_dp l a v x h1 rx, toPy_dp l b _ y h2 ry, h3, h4, k I H _ (Ex.refl l) (R_bl.mpr rfl)⟩
theorem os_notInD (hu : X.A.units + 65 < cLine) : OpS X (compareOp .NotIn) (dOr dNotIn dNotInD) := by
  refine os_notIn.or ⟨_, op_notInD hu, fun I H a b x y d Q l e rx ry k => ?_⟩
  obtain ⟨q, e2, rfl⟩ := Option.map_eq_some_iff.mp e
  obtain ⟨v, ds, h1, h2, h3, h4, rfl⟩ := dInP_some e2
  exact ⟨v, ds, toPy_dp l a v x h1 rx, toPy_dp l b _ y h2 ry, h3, h4, k I H _ (Ex.refl l) (R_bl.mpr rfl)⟩
theorem os_inP (hu : X.A.units + 65 < cLine) : OpS X (compareOp .In) dInD := by
  refine ⟨_, op_inD hu, fun I H a b x y d Q l e rx ry k => ?_⟩
  obtain ⟨q, e2, rfl⟩ := Option.map_eq_some_iff.mp e
  obtain ⟨v, ds, h1, h2, h3, h4, rfl⟩ := dInP_some e2
  exact ⟨v, ds, toPy_dp l a v x h1 rx, toPy_dp l b _ y h2 ry, h3, h4, k I H _ (Ex.refl l) (R_bl.mpr rfl)⟩
theorem os_notInP (hu : X.A.units + 65 < cLine) : OpS X (compareOp .NotIn) dNotInD := by
  refine ⟨_, op_notInD hu, fun I H a b x y d Q l e rx ry k => ?_⟩
  obtain ⟨q, e2, rfl⟩ := Option.map_eq_some_iff.mp e
  obtain ⟨v, ds, h1, h2, h3, h4, rfl⟩ := dInP_some e2
  exact ⟨v, ds, toPy_dp l a v x h1 rx, toPy_dp l b _ y h2 ry, h3, h4, k I H _ (Ex.refl l) (R_bl.mpr rfl)⟩
def lstAt (i : Nat) (ev : Ev) : Bool := match ev[i]? with
  | some (some (.own (.lst _))) => true
  | some (some (.bor (.lst _))) => true
  | _ => false
def appAt (i : Nat) (d : D) (ev : Ev) : Option Ev := match ev[i]? with
  | some (some (.own (.lst xs))) => if xs.length < sizeLine then some (ev.set i (some (.own (.lst (xs ++ [d]))))) else none
  | some (some (.bor (.lst xs))) => if xs.length < sizeLine then some (ev.set i (some (.bor (.lst (xs ++ [d]))))) else none
  | _ => none
def sApp (i : Nat) (ce : M D) : MS := fun ev => if lstAt i ev = true then sE ce (fun d => sOpt (appAt i d)) ev else none
theorem appAt_some {i : Nat} {d : D} {ev ev' : Ev} (h : appAt i d ev = some ev') : ∃ s xs, ev[i]? = some (some s) ∧ s.isCell = true ∧ (s = .own (.lst xs) ∨ s = .bor (.lst xs)) ∧ xs.length < sizeLine ∧ ev' = ev.set i (some (kindTo s (.lst (xs ++ [d])))) := by
  unfold appAt at h
  split at h
  · rename_i xs e
    split at h
    · rename_i hl
      cases h
      exact ⟨_, xs, e, rfl, .inl rfl, hl, rfl⟩
    · cases h
  · rename_i xs e
    split at h
    · rename_i hl
      cases h
      exact ⟨_, xs, e, rfl, .inr rfl, hl, rfl⟩
    · cases h
  · cases h
theorem ss_app (i : Nat) {ce : M D} {apos cpos : Pos} (hN : X.N[i]? = some x) (hv : Vis X.env.scope x) (ha : SE X W e ce) (hd : (x == ("__debug__" : Str)) = false := by decide +kernel) (hcd : (x == ("__classdict__" : Str)) = false := by decide +kernel)
    (hs : swapsWith (.Call (.Attribute (.Name x p) "append" apos) [e] [] cpos) none pos.line X.env = pure false := by rfl)
    (hbase : attributeBase (.Name x p) "append" X.env (eval (.Name x p) X.env) = eval (.Name x p) X.env := by rfl)
    (hfew : ((backTo cpos (starEach [e] X.env)).all (fun x => !x.1) && (backToKw cpos (keywordEach [] X.env)).all (fun x => x.1.isSome)
      && decide (([e] : List Expr).length + ([] : List Keyword).length + (if ([] : List Keyword).isEmpty then 0 else 1) < 30)) = true := by rfl)
    (hline : (apos.endLine == cpos.line) = true := by rfl) (he : starEach [e] X.env = (false, eval e X.env) :: starEach [] X.env := by rfl) (hpl : (backTo cpos (starEach [] X.env)).any (·.1) = false := by rfl) :
    SS X W (.Expr (.Call (.Attribute (.Name x p) "append" apos) [e] [] cpos) pos) (sApp i ce) := by
  obtain ⟨ta, pa, sa⟩ := ha
  refine ⟨_, ps_expr (pe_bm PySem.F.plainAttrs_list PySem.F.slot_list_append PySem.F.type_list_append mt_append (pe_var hN hv hd hcd) (pa_cons pa pa_nil he) hbase hfew hline he hpl) hs, fun σ ev I H En rel h => ?_⟩
  have hl : lstAt i ev = true := by
    unfold PostS sApp at h
    cases q : lstAt i ev with
    | true => rfl
    | false => simp only [q, Bool.false_eq_true, if_false] at h
  have h2 : PostS X.K W (sE ce fun d => sOpt (appAt i d)) σ ev I H En := by
    unfold PostS sApp at h
    simp only [hl, if_true] at h
    exact h
  obtain ⟨s0, e0, c0, l0⟩ : ∃ s, ev[i]? = some (some s) ∧ s.isCell = true ∧ ∃ xs, s = .own (.lst xs) ∨ s = .bor (.lst xs) := by
    unfold lstAt at hl
    split at hl
    · rename_i xs e; exact ⟨_, e, rfl, xs, .inl rfl⟩
    · rename_i xs e; exact ⟨_, e, rfl, xs, .inr rfl⟩
    · cases hl
  obtain ⟨q, c, hσ, hI, hc, hk⟩ := rel.cell e0 c0
  obtain ⟨xs, l0⟩ := l0
  have hcl : c = .lst xs := by rcases l0 with rfl | rfl <;> rcases hk with hk | hk <;> first | (cases hk; rfl) | cases hk
  subst hcl
  obtain ⟨vs, hH, rs⟩ := hc
  refine ⟨.ref q, hσ, .inl ⟨rfl, vs, SqL.of hH⟩, ?_⟩
  refine sa σ ev I H _ rel (h2.expr.imp fun d ev1 I1 H1 s1 r1 h1 v rv => ?_)
  obtain ⟨ev2, e2, k⟩ := h1.opt
  obtain ⟨s3, ys, e3, c3, l3, hz, rfl⟩ := appAt_some e2
  obtain ⟨q3, c3', hσ3, hI3, hc3, hk3⟩ := r1.cell e3 c3
  have hcl3 : c3' = .lst ys := by rcases l3 with rfl | rfl <;> rcases hk3 with hk3 | hk3 <;> first | (cases hk3; rfl) | cases hk3
  subst hcl3
  rw [hσ] at hσ3
  cases hσ3
  obtain ⟨ws, hH3, rs3⟩ := hc3
  obtain ⟨s4, r4⟩ := write_cell (c := .lst (ys ++ [d])) (o := .lst (ws ++ [v])) r1 e3 c3 hσ hI3 (by rw [hH3]; exact fun z => by cases z) ⟨_, upd_same, rs3.append (Rs_cons.mpr ⟨v, [], rfl, rv, Rs_nil.mpr rfl⟩)⟩
  exact ⟨q, ws, v, rfl, rfl, hH3, by rw [← rs3.length]; exact hz, k σ I1 _ s4 r4⟩
def opAt (g : D → D → Option D) (i : Nat) (y : D) : M D := fun ev => match nmD ev i with
  | some d => (match g d y with
    | some r => if isSc r then some (.ok r ev) else none
    | none => none)
  | none => none
def m2N (g : D → D → Option D) (i : Nat) (cb : M D) : M D := mNm i (cb.bind fun y => opAt g i y)
theorem sim2N {K : PySem.W.Frag} {g : D → D → Option D} {r : R2} {i : Nat} {tb : TE} {cb : M D} (hg : ∀ (I H : Hp) (a b : D) (x y : V) (d : D) (Q : VK), Le I H → g a b = some d → R K I a x → R K I b y → (∀ I' H' v, Ex I H I' H' → R K I' d v → Q v H') → r x y H Q)
    (sb : SimE K W tb cb) : SimE K W (tOp r (tVar i) tb) (m2N g i cb) := fun σ ev I H Q rel h => by
  obtain ⟨⟨v, hσ⟩, h1⟩ := h.nm rel
  refine ⟨v, hσ, sb σ ev I H _ rel ((Post.bind h1).imp fun y ev1 I1 H1 s1 r1 h2 vy ry => ?_)⟩
  unfold Post opAt at h2
  cases q : nmD ev1 i with
  | none => rw [q] at h2; exact h2.elim
  | some d =>
    simp only [q] at h2
    obtain ⟨J, j1, j2, j3⟩ := peek r1 q hσ
    cases eg : g d y with
    | none => simp only [eg] at h2
    | some r' =>
      simp only [eg] at h2
      cases hs : isSc r' with
      | false => simp only [hs, Bool.false_eq_true, if_false] at h2
      | true =>
        simp only [hs, if_true] at h2
        refine hg J H1 d y v vy r' Q j2 eg j3 (R.mono j1 _ _ ry) fun I' H' v' ex rv => ?_
        have ex2 : Ex I1 H1 I1 H' := ⟨ex.same, Le.refl _, r1.sub.trans ex.same, fun _ _ z => z⟩
        exact h2 I1 H' ex2.step (r1.ex ex2) v' (sc_any hs rv)
theorem st_cmpN (i : Nat) {op : CmpOp} {g : D → D → Option D} {cb : M D} (ho : OpS X (compareOp op) g) (hN : X.N[i]? = some x) (hv : Vis X.env.scope x) (hb : SE X W b cb) (hm : behindInMarks op b = false) (hd : (x == ("__debug__" : Str)) = false := by decide +kernel) (hcd : (x == ("__classdict__" : Str)) = false := by decide +kernel) :
    STt X W (.Compare (.Name x p) [op] [b] pos) (mT (m2N g i cb)) := by
  obtain ⟨r, ho, hg⟩ := ho
  obtain ⟨tb, pb, sb⟩ := hb
  refine ⟨_, pt_cmpR ho (pe_var hN hv hd hcd) pb hm, fun σ ev I H Q rel h => ?_⟩
  refine sim2N (W := W) hg sb σ ev I H _ rel ((Post.bind h).imp fun x ev1 I1 H1 s1 r1 h1 vx rx => ?_)
  cases x with
  | bl q => exact ⟨q, R_bl.mp rx, Post.ret (α := Bool) r1 h1⟩
  | _ => exact h1.elim
theorem se_cmpN (i : Nat) {op : CmpOp} {g : D → D → Option D} {cb : M D} (ho : OpS X (compareOp op) g) (hN : X.N[i]? = some x) (hv : Vis X.env.scope x) (hb : SE X W b cb) (hm : behindInMarks op b = false) (hd : (x == ("__debug__" : Str)) = false := by decide +kernel) (hcd : (x == ("__classdict__" : Str)) = false := by decide +kernel) :
    SE X W (.Compare (.Name x p) [op] [b] pos) (m2N g i cb) := by
  obtain ⟨r, ho, hg⟩ := ho
  obtain ⟨tb, pb, sb⟩ := hb
  exact ⟨_, pe_cmpR ho (pe_var hN hv hd hcd) pb hm, sim2N hg sb⟩
/-- whether what a name holds is true -/
def mTruN (i : Nat) : M Bool := fun ev => (nmD ev i).bind fun d => (dTru d).map fun q => .ok q ev
theorem st_truN (i : Nat) (hN : X.N[i]? = some x) (hv : Vis X.env.scope x) (hd : (x == ("__debug__" : Str)) = false := by decide +kernel) (hcd : (x == ("__classdict__" : Str)) = false := by decide +kernel)
    (he : ∀ whole, isTrue (.Name x p) X.env whole = (do let v ← whole; standAt (Expr.Name x p).pos; holding [v] (truthy v)) := by intro _; rfl) : STt X W (.Name x p) (mTruN i) := by
  refine ⟨_, pt_truth (pe_var hN hv hd hcd) he, fun σ ev I H Q rel h => ?_⟩
  unfold Post mTruN at h
  cases q : nmD ev i with
  | none => rw [q] at h; exact h.elim
  | some d =>
    rw [q] at h
    cases e : dTru d with
    | none => simp only [Option.bind, e, Option.map] at h
    | some t =>
      simp only [Option.bind, e, Option.map] at h
      have q' := q
      unfold nmD at q'
      cases e0 : ev[i]? with
      | none => rw [e0] at q'; cases q'
      | some o =>
        cases o with
        | none => rw [e0] at q'; cases q'
        | some s =>
          obtain ⟨v, hσ⟩ := peek_set rel e0
          obtain ⟨J, j1, j2, j3⟩ := peek rel q hσ
          exact ⟨v, hσ, t, dTru_ok j2 e j3, h I H (Step.refl ..) rel⟩
end
end FL
set_option Elab.async false
set_option linter.all false
set_option maxRecDepth 100000
namespace FL
open PySem
open PySem.Spec
open L2
def repS (a : Str) (n : Nat) : Str := ⟨(List.replicate n a.cps).foldl (· ++ ·) #[]⟩
def repOk (a : Str) (k : Int) : Prop := 2 ≤ k ∧ k ≤ 1000 ∧ 1 ≤ a.length ∧ a.length ≤ 1000 ∧ (repS a k.toNat).length ≤ sizeLine
instance (a : Str) (k : Int) : Decidable (repOk a k) := inferInstanceAs (Decidable (_ ∧ _))
section
variable {X : Cx}
theorem op_mulS : OpR X (binaryOp .Mult) (fun x y H Q => ∃ a k, x = .str a ∧ y = .int k ∧ repOk a k ∧ Q (.str (repS a k.toNat)) H) := by
  intro pins s σ H x y v u Q I rx ry hmul
  obtain ⟨a, k, rfl, rfl, hk, q⟩ := hmul
  obtain ⟨t, rfl⟩ := rx
  obtain ⟨t', rfl⟩ := ry
  obtain ⟨h1, h2, h3, h4, h5⟩ := hk
  have n1 : ¬ k < 1 := by omega
  have n2 : (k == 1 || a.length == 0) = false := by
    rw [Bool.or_eq_false_iff]
    exact ⟨by simpa using (show ¬ k = 1 by omega), by simpa using (show ¬ a.length = 0 by omega)⟩
  refine P.mul_str ?_ (fun _ _ => ?_) (fun _ _ => ?_) ?_
  · rw [Bool.or_eq_false_iff]
    exact ⟨decide_eq_false (by omega), decide_eq_false (by omega)⟩
  · have : (2 ^ 63 - 1) / 1000 ≤ (2 ^ 63 - 1) / k := by
      have : (2 ^ 63 - 1) / 1000 * k ≤ 2 ^ 63 - 1 := by omega
      exact (Int.le_ediv_iff_mul_le (by omega)).mpr this
    omega
  · have : a.length * k.toNat ≤ 1000 * 1000 := Nat.mul_le_mul h4 (by omega)
    refine decide_eq_false ?_
    rw [sizeLine_eq]
    omega
  · rw [if_neg n1, n2]
    simp only [Bool.false_eq_true, if_false]
    exact ⟨h5, ⟨.str (repS a k.toNat), H, I.tok _, ⟨_, rfl⟩, q⟩⟩
def dMulS : D → D → Option D
  | .str a, .int k => if repOk a k then some (.str (repS a k.toNat)) else none
  | _, _ => none
theorem os_mulS : OpS X (binaryOp .Mult) dMulS := by
  refine ⟨_, op_mulS, fun I H a b x y d Q l e rx ry k => ?_⟩
  unfold dMulS at e
  split at e
  · split at e
    · rename_i hk
      cases e
      exact ⟨_, _, R_str.mp rx, R_int.mp ry, hk, k I H _ (Ex.refl l) (R_str.mpr rfl)⟩
    · cases e
  · cases e
end
def sParF (i j : Nat) (ca : M D) (cb : M Cell) : MS := sE ca fun d => sE cb fun c => sOpt fun ev => (setD i d ev).bind (setO j c)
section
variable {X : Cx} {W : WX} {a b : Expr} {pos : Pos}
theorem ss_parF {i j : Nat} {x y : Str} {ca : M D} {cb : M Cell} {px py pt : Pos} {kt k2 pt2} (hc : X.calm = true) (hN : X.N.Nodup) (hi : X.N[i]? = some x) (hj : X.N[j]? = some y) (hij : i ≠ j)
    (hx : X.env.scope.names.lookup x = some .local) (hy : X.env.scope.names.lookup y = some .local) (ha : SE X W a ca) (hb : SEF X W b cb)
    (hw : swappedStores [.Tuple [.Name x px, .Name y py] kt pt] (.Tuple [a, b] k2 pt2) X.env = pure (some [x, y]))
    (hs : swapsWithSole [.Tuple [.Name x px, .Name y py] kt pt] (.Tuple [a, b] k2 pt2) pos.line X.env = pure false := by rfl)
    (h1 : starEach [a, b] X.env = (false, eval a X.env) :: starEach [b] X.env := by rfl) (h2 : starEach [b] X.env = (false, eval b X.env) :: starEach [] X.env := by rfl) :
    SS X W (.Assign [.Tuple [.Name x px, .Name y py] kt pt] (.Tuple [a, b] k2 pt2) pos) (sParF i j ca cb) := by
  obtain ⟨ta, pa, sa⟩ := ha
  obtain ⟨tb, pb, sb⟩ := hb
  refine ⟨_, ps_par hc hN hi hj hij hx hy (pa_cons pa (pa_cons pb pa_nil h2) h1) hw hs, fun σ ev I H En rel h => ?_⟩
  refine sa σ ev I H _ rel (h.expr.imp fun d ev1 I1 H1 s1 r1 h3 v rv => ?_)
  refine sb σ ev1 I1 H1 _ r1 ?_
  unfold PostS sE at h3
  unfold Post
  cases q : cb ev1 with
  | none => rw [q] at h3; exact h3
  | some o =>
    rw [q] at h3
    cases o with
    | er x ev' => exact fun I' H' dd s r xd => h3 σ I' H' dd s r xd
    | ok c ev2 =>
      intro I2 H2 s2 r2 p q1 q2 q3 q4
      simp only [sOpt] at h3
      cases e : (setD i d ev2).bind (setO j c) with
      | none => rw [e] at h3; exact h3.elim
      | some ev3 =>
        rw [e] at h3
        obtain ⟨ev4, e1, e2⟩ := Option.bind_eq_some_iff.mp e
        obtain ⟨s3, r3⟩ := set_data r2 e1 (R.mono s2.le _ _ rv)
        obtain ⟨s4, r4⟩ := set_cell (s2.trans s3) r3 e2 q1 q2 (fun z => (s3.own p z).elim q3 fun w => q4.there w) q4
        exact ⟨v, .ref p, rfl, h3 _ _ _ s4 r4⟩
end
def gsLst (n : Nat) (gs : List D → Ev → Option Ev) : D → Ev → Option Ev
  | .lst ds, ev => if ds.length = n then gs ds ev else none
  | _, _ => none
theorem sg_lst {X : Cx} {es : List Expr} {pos : Pos} {gs : List D → Ev → Option Ev} {ts : List Nat} {k n : Nat} (hc : X.calm = true) (h : SGs X es gs ts) (hn : (assignEach es X.env).length = n) (hst : (assignEach es X.env).findIdx? (·.1) = none := by rfl) : SG X (.Tuple es k pos) (gsLst n gs) ts := by
  obtain ⟨t, p, s⟩ := h
  refine ⟨_, pg_lst hc p hn hst, fun σ ev ev' I H v d Q rel rv e k => ?_⟩
  cases d with
  | lst ds =>
    obtain ⟨a, vs, rfl, h1, h2⟩ := R_lst.mp rv
    simp only [gsLst] at e
    by_cases hl : ds.length = n
    · rw [if_pos hl] at e
      exact ⟨a, vs, rfl, rel.sub.sqL h1, by rw [← h2.length]; exact hl, s σ ev ev' I H vs ds Q rel h2 e k⟩
    · rw [if_neg hl] at e
      cases e
  | _ => cases e
end FL
set_option Elab.async false
set_option linter.all false
set_option maxRecDepth 100000
namespace FL
open PySem
open PySem.Spec
open L2
theorem dLt_i {i j : Int} : dLt (.int i) (.int j) = some (.bl (decide (i < j))) := rfl
theorem dLe_i {i j : Int} : dLe (.int i) (.int j) = some (.bl (decide (i ≤ j))) := rfl
theorem dGt_i {i j : Int} : dGt (.int i) (.int j) = some (.bl (decide (j < i))) := rfl
theorem dGe_i {i j : Int} : dGe (.int i) (.int j) = some (.bl (decide (j ≤ i))) := rfl
theorem dAdd_i {i j : Int} : dAdd (.int i) (.int j) = some (.int (i + j)) := rfl
theorem dSub_i {i j : Int} : dSub (.int i) (.int j) = some (.int (i - j)) := rfl
theorem dNeg_i {i : Int} : dNeg (.int i) = some (.int (-i)) := rfl
theorem dEq_i {i j : Int} : dEq (.int i) (.int j) = some (.bl (decide (i = j))) := by simp [dEq, dOr, dEqS, scV, scal]
theorem dNe_i {i j : Int} : dNe (.int i) (.int j) = some (.bl (!decide (i = j))) := by simp [dNe, dEq_i, dNot]
theorem dEq_s {a b : Str} : dEq (.str a) (.str b) = some (.bl (decide (a = b))) := by simp [dEq, dOr, dEqS, scV, scal]
theorem dNe_s {a b : Str} : dNe (.str a) (.str b) = some (.bl (!decide (a = b))) := by simp [dNe, dEq_s, dNot]
theorem dNe_b {a b : Bool} : dNe (.bl a) (.bl b) = some (.bl (a != b)) := by cases a <;> cases b <;> rfl
theorem dEq_b {a b : Bool} : dEq (.bl a) (.bl b) = some (.bl (a == b)) := by cases a <;> cases b <;> rfl
theorem dAdd_s {a b : Str} (h : a.length + b.length ≤ sizeLine) : dAdd (.str a) (.str b) = some (.str (a ++ b)) := by
  simp only [dAdd, h, if_true]
theorem dAdd_l {a b : List D} (h : a.length + b.length ≤ sizeLine) : dAdd (.lst a) (.lst b) = some (.lst (a ++ b)) := by
  simp only [dAdd, h, if_true]
theorem dAdd_t {a b : List D} (h : a.length + b.length ≤ sizeLine) : dAdd (.tup a) (.tup b) = some (.tup (a ++ b)) := by
  simp only [dAdd, h, if_true]
theorem gLen_s {a : Str} (h : a.length ≤ sizeLine) : gLen [.str a] = some (.int a.length) := by
  simp only [gLen, lenD, h, if_true]
  rfl
theorem gLen_l {a : List D} : gLen [.lst a] = some (.int a.length) := rfl
theorem gLen_t {a : List D} : gLen [.tup a] = some (.int a.length) := rfl
theorem dSl_s {a : Str} {l h : Option Int} (hz : a.length ≤ sizeLine) : dSl (.str a) l h = some (.str (cutS a l h)) := by
  simp only [dSl, hz, if_true]
theorem dSl_l {a : List D} {l h : Option Int} : dSl (.lst a) l h = some (.lst (cutD a l h)) := rfl
theorem dSl_t {a : List D} {l h : Option Int} : dSl (.tup a) l h = some (.tup (cutD a l h)) := rfl
theorem gStr_i {i : Int} (h : i.natAbs.log2 < 1920) : gStr1 [.int i] = some (.str (Str.ofString (toString i))) := by
  simp only [gStr1, h, if_true]
theorem gStr_len {i : Int} (h : i.natAbs.log2 < 1920) : (Str.ofString (toString i)).length ≤ 1921 := PyProof.Rows.int_text_len_1921 h
theorem len_app {a b : Str} : (a ++ b).length = a.length + b.length := Str.length_append a b
theorem cutS_len {a : Str} {l h : Option Int} : (cutS a l h).length ≤ a.length := by
  show (List.toArray _).size ≤ _
  rw [List.size_toArray, List.length_take, List.length_drop]
  have : a.cps.toList.length = a.length := by simp [Str.length]
  omega
theorem upper_len {a : Str} : (Txt.upper a).length ≤ 3 * a.length := PyProof.Rows.len_upper a
theorem dSplit_s {a b : Str} (h1 : (b.length == 0) = false) (h2 : a.length + 2 ≤ sizeLine) : dSplit (.str a) (.str b) = some (.lst ((Txt.split a b).map .str)) := by
  simp only [dSplit, h1, h2, and_self, if_true]
theorem dPartition_s {a b : Str} (h1 : (b.length == 0) = false) (h2 : a.length ≤ sizeLine) : dPartition (.str a) (.str b) = some (.tup [.str (Txt.partition a b).1, .str (Txt.partition a b).2.1, .str (Txt.partition a b).2.2]) := by
  simp only [dPartition, h1, h2, and_self, if_true]
theorem dRemovePre_s {a b : Str} (h2 : a.length ≤ sizeLine) : dRemovePre (.str a) (.str b) = some (.str (Txt.removeprefix a b)) := by
  simp only [dRemovePre, h2, if_true]
theorem dUpper_s {a : Str} (h2 : a.length ≤ 5592405) : dUpper (.str a) = some (.str (Txt.upper a)) := by
  simp only [dUpper, h2, if_true]
/-- the lengths of joined texts -/
theorem joinOk_of {a : Str} {ys : List Str} {B : Nat} (hB : ∀ y ∈ ys, y.length ≤ B) (h : ys.length * B + ys.length * a.length ≤ 16777216) : joinOk a ys := by
  have := StrLaws.sumLen_le ys hB
  unfold joinOk
  omega
theorem join_len {a : Str} {ys : List Str} {B : Nat} (hB : ∀ y ∈ ys, y.length ≤ B) : (Txt.join a ys).length ≤ ys.length * B + ys.length * a.length := by
  have h1 := StrLaws.sumLen_le ys hB
  have h2 := StrLaws.join_length_le a ys
  show (Builtin.Str.glued a ys).length ≤ _
  rw [StrLaws.glued_eq_join]
  omega
theorem dJoin_l {a : Str} {ys : List Str} (h : joinOk a ys) : dJoin (.str a) (.lst (ys.map .str)) = some (.str (Txt.join a ys)) := by
  simp only [dJoin, strsD_map, Option.bind, h, if_true]
theorem mRng_ok {f : List D → Option (List D)} {ca : M (List D)} {ev ev' : Ev} {ds xs : List D} (h1 : ca ev = some (.ok ds ev')) (h2 : f ds = some xs) : mRng f ca ev = some (.ok xs ev') := by
  simp only [mRng, M.bind, h1, M.opt, h2, Option.map]
theorem rng1_n {n : Nat} (h : n ≤ 1000000) : rng1 [.int (n : Int)] = some ((List.range n).map fun (i : Nat) => D.int (0 + (i : Int))) := by
  have h1 : -(2 ^ 62 : Int) ≤ (n : Int) := by omega
  have h2 : (n : Int) < 2 ^ 62 := by omega
  simp only [rng1, h1, h2, and_self, if_true, Int.toNat_natCast]
/-- a walk that makes a list, each turn of which keeps J -/
theorem compL_inv {vs : List Nat} {gs : D → Ev → Option Ev} {ct : M Bool} {ce : M D} {J : Nat → List D → Ev → Prop} : ∀ {xs : List D} {i : Nat} {acc : List D} {ev : Ev}, J i acc ev → (∀ (k : Nat) (x : D) (acc : List D) (ev : Ev), xs[k]? = some x → J (i + k) acc ev →
      ∃ o ev', inner vs (gs x) (turnC ct ce) ev = some (.ok o ev') ∧ (match o with
        | some d => acc.length < sizeLine ∧ J (i + k + 1) (acc ++ [d]) ev'
        | none => J (i + k + 1) acc ev')) → ∃ acc' ev', compL vs gs ct ce xs acc ev = some (.ok acc' ev') ∧ J (i + xs.length) acc' ev'
  | [], i, acc, ev, h, _ => ⟨acc, ev, rfl, h⟩
  | x :: xs, i, acc, ev, h, t => by
    obtain ⟨o, ev1, e1, h1⟩ := t 0 x acc ev rfl h
    have t2 : ∀ (k : Nat) (y : D) (acc : List D) (ev : Ev), xs[k]? = some y → J (i + 1 + k) acc ev → ∃ o ev', inner vs (gs y) (turnC ct ce) ev = some (.ok o ev') ∧ (match o with
        | some d => acc.length < sizeLine ∧ J (i + 1 + k + 1) (acc ++ [d]) ev'
        | none => J (i + 1 + k + 1) acc ev') := fun k y acc ev hy hj => by
      have := t (k + 1) y acc ev (by simpa using hy) (by rw [show i + (k + 1) = i + 1 + k by omega]; exact hj)
      rw [show i + 1 + k + 1 = i + (k + 1) + 1 by omega]
      exact this
    cases o with
    | none =>
      obtain ⟨acc', ev', e, j⟩ := compL_inv (xs := xs) (i := i + 1) (acc := acc) (ev := ev1) h1 t2
      refine ⟨acc', ev', ?_, by rw [List.length_cons, show i + (xs.length + 1) = i + 1 + xs.length by omega]; exact j⟩
      simp only [compL, M.bind, e1]
      exact e
    | some d =>
      obtain ⟨hl, h1⟩ := h1
      obtain ⟨acc', ev', e, j⟩ := compL_inv (xs := xs) (i := i + 1) (acc := acc ++ [d]) (ev := ev1) h1 t2
      refine ⟨acc', ev', ?_, by rw [List.length_cons, show i + (xs.length + 1) = i + 1 + xs.length by omega]; exact j⟩
      simp only [compL, M.bind, e1, hl, if_true]
      exact e
theorem isSc_i {i : Int} : isSc (.int i) = true := rfl
section
variable {α : Type} {ev ev1 ev2 ev3 : Ev} {d x y z : D} {c : Cell} {xs ds : List D}
theorem sRet_ok {ca : M D} (h : ca ev = some (.ok d ev1)) : sRet ca ev = some (.rt (.d d) ev1) := by simp only [sRet, sE, h]
theorem sSet_ok {i : Nat} {ca : M D} (h : ca ev = some (.ok d ev1)) (h2 : setD i d ev1 = some ev2) : sSet i ca ev = some (.nx ev2) := by simp only [sSet, sE, h, sOpt, h2, Option.map]
theorem sSetF_ok {i : Nat} {ca : M Cell} (h : ca ev = some (.ok c ev1)) (h2 : setO i c ev1 = some ev2) : sSetF i ca ev = some (.nx ev2) := by simp only [sSetF, sE, h, h2, Option.map]
theorem sExpr_ok {ca : M D} (h : ca ev = some (.ok d ev1)) : sExpr ca ev = some (.nx ev1) := by simp only [sExpr, sE, h]
theorem sIf_t {ct : M Bool} {a b : MS} (h : ct ev = some (.ok true ev1)) : sIf ct a b ev = a ev1 := by simp only [sIf, sE, h, if_true]
theorem sIf_f {ct : M Bool} {a b : MS} (h : ct ev = some (.ok false ev1)) : sIf ct a b ev = b ev1 := by simp only [sIf, sE, h, Bool.false_eq_true, if_false]
theorem mIf_t {ct : M Bool} {a b : M α} (h : ct ev = some (.ok true ev1)) : mIf ct a b ev = a ev1 := by simp only [mIf, M.bind, h, if_true]
theorem mIf_f {ct : M Bool} {a b : M α} (h : ct ev = some (.ok false ev1)) : mIf ct a b ev = b ev1 := by simp only [mIf, M.bind, h, Bool.false_eq_true, if_false]
theorem mM1_ok {g : D → D → Option D} {co ce : M D} {w : Str} (h1 : co ev = some (.ok (.str w) ev1)) (h2 : ce ev1 = some (.ok y ev2)) (h3 : g (.str w) y = some d) : mM1 g co ce ev = some (.ok d ev2) := by simp only [mM1, M.bind, h1, h2, M.opt, h3, Option.map]
theorem mM0_ok {g : D → Option D} {co : M D} {w : Str} (h1 : co ev = some (.ok (.str w) ev1)) (h3 : g (.str w) = some d) : mM0 g co ev = some (.ok d ev1) := by simp only [mM0, M.bind, h1, M.opt, h3, Option.map]
theorem mFz_ok {cc : M Cell} (h : cc ev = some (.ok c ev1)) : mFz cc ev = some (.ok (fz c) ev1) := by simp only [mFz, M.bind, h, M.ret]
theorem mComp_ok {vs : List Nat} {gs : D → Ev → Option Ev} {ct : M Bool} {ce : M D} {ci : M (List D)} (h1 : ci ev = some (.ok xs ev1)) (h2 : compL vs gs ct ce xs [] ev1 = some (.ok ds ev2)) : mComp vs gs ct ce ci ev = some (.ok (.lst ds) ev2) := by simp only [mComp, M.bind, h1, h2, M.ret]
theorem mItemsX_ok {ca : M D} (h : ca ev = some (.ok d ev1)) (h2 : itemsX d = some xs) : mItemsX ca ev = some (.ok xs ev1) := by simp only [mItemsX, M.bind, h, M.opt, h2, Option.map]
theorem mItems_ok {ca : M D} (h : ca ev = some (.ok d ev1)) (h2 : itemsD d = some xs) : mItems ca ev = some (.ok xs ev1) := by simp only [mItems, M.bind, h, M.opt, h2, Option.map]
theorem mB_ok {g : List D → Option D} {ca : M (List D)} (h : ca ev = some (.ok ds ev1)) (h2 : g ds = some d) : mB g ca ev = some (.ok d ev1) := by simp only [mB, M.bind, h, M.opt, h2, Option.map]
theorem m2_ok {g : D → D → Option D} {ca cb : M D} (h1 : ca ev = some (.ok x ev1)) (h2 : cb ev1 = some (.ok y ev2)) (h3 : g x y = some d) : m2 g ca cb ev = some (.ok d ev2) := by simp only [m2, M.bind, h1, h2, M.opt, h3, Option.map]
theorem mCons_ok {ca : M D} {cr : M (List D)} (h1 : ca ev = some (.ok x ev1)) (h2 : cr ev1 = some (.ok xs ev2)) : mCons ca cr ev = some (.ok (x :: xs) ev2) := by simp only [mCons, M.bind, h1, h2, M.ret]
theorem mLst_ok {ca : M (List D)} (h : ca ev = some (.ok ds ev1)) (hl : ds.length ≤ sizeLine) : mLst ca ev = some (.ok (.lst ds) ev1) := by simp only [mLst, M.bind, h, M.opt, hl, if_true, Option.map]
theorem mTup_ok {ca : M (List D)} (h : ca ev = some (.ok ds ev1)) (hl : ds.length ≤ sizeLine) : mTup ca ev = some (.ok (.tup ds) ev1) := by simp only [mTup, M.bind, h, M.opt, hl, if_true, Option.map]
theorem mTru_ok {ca : M D} {q : Bool} (h : ca ev = some (.ok d ev1)) (h2 : dTru d = some q) : mTru ca ev = some (.ok q ev1) := by simp only [mTru, M.bind, h, M.opt, h2, Option.map]
theorem mT_ok {ca : M D} {q : Bool} (h : ca ev = some (.ok (.bl q) ev1)) : mT ca ev = some (.ok q ev1) := by simp only [mT, M.bind, h, M.ret]
theorem mTNot_ok {ca : M Bool} {q : Bool} (h : ca ev = some (.ok q ev1)) : mTNot ca ev = some (.ok (!q) ev1) := by simp only [mTNot, M.bind, h, M.ret]
theorem mTOr_t {ca cb : M Bool} (h : ca ev = some (.ok true ev1)) : mTOr ca cb ev = some (.ok true ev1) := by simp only [mTOr, M.bind, h, if_true, M.ret]
theorem mTOr_f {ca cb : M Bool} (h : ca ev = some (.ok false ev1)) : mTOr ca cb ev = cb ev1 := by simp only [mTOr, M.bind, h, Bool.false_eq_true, if_false]
theorem mTAnd_f {ca cb : M Bool} (h : ca ev = some (.ok false ev1)) : mTAnd ca cb ev = some (.ok false ev1) := by simp only [mTAnd, M.bind, h, Bool.false_eq_true, if_false, M.ret]
theorem mTAnd_t {ca cb : M Bool} (h : ca ev = some (.ok true ev1)) : mTAnd ca cb ev = cb ev1 := by simp only [mTAnd, M.bind, h, if_true]
theorem sFor_ok {gs : D → Ev → Option Ev} {ci : M (List D)} {b : MS} {o : OS} (h : ci ev = some (.ok xs ev1)) (h2 : forL gs b xs ev1 = some o) : sFor gs ci b ev = some o := by simp only [sFor, sE, h, h2]
end
end FL
set_option Elab.async false
set_option linter.all false
set_option maxRecDepth 100000
namespace FL
open PySem
open PySem.Spec
open L2
open Builtin Builtin.Str
/-- a text's signs -/
def sgn (z : Str) : List Nat := z.cps.toList
theorem sgn_len (z : Str) : (sgn z).length = z.length := by simp [sgn, Str.length]
theorem sgn_inj {a b : Str} (h : sgn a = sgn b) : a = b := by
  cases a with
  | mk a =>
    cases b with
    | mk b =>
      have : a = b := Array.toList_inj.mp h
      rw [this]
theorem sgn_mk (l : List Nat) : sgn ⟨l.toArray⟩ = l := by simp [sgn]
theorem sgn_one (c : Nat) : sgn ⟨#[c]⟩ = [c] := rfl
theorem sgn_app (a b : Str) : sgn (a ++ b) = sgn a ++ sgn b := by
  show (a.cps ++ b.cps).toList = _
  simp [sgn]
theorem cutS_sgn (z : Str) (lo hi : Option Int) : sgn (cutS z lo hi) = ((sgn z).drop (HT.sIx z.length 0 lo)).take (HT.sIx z.length z.length hi - HT.sIx z.length 0 lo) := by
  unfold cutS
  rw [sgn_mk]
  rfl
theorem cut_to (z : Str) (k : Nat) : sgn (cutS z none (some (k : Int))) = (sgn z).take k := by
  rw [cutS_sgn, HT.sIx_none, HT.sIx_nat, List.drop_zero, Nat.sub_zero]
  by_cases h : k ≤ z.length
  · rw [Nat.min_eq_left h]
  · rw [Nat.min_eq_right (by omega), List.take_of_length_le (by rw [sgn_len]; omega), List.take_of_length_le (by rw [sgn_len]; omega)]
theorem cut_from (z : Str) (k : Nat) : sgn (cutS z (some (k : Int)) none) = (sgn z).drop k := by
  rw [cutS_sgn, HT.sIx_none, HT.sIx_nat]
  by_cases h : k ≤ z.length
  · rw [Nat.min_eq_left h, List.take_of_length_le (by rw [List.length_drop, sgn_len]; omega)]
  · rw [Nat.min_eq_right (by omega), Nat.sub_self, List.take_zero, List.drop_eq_nil_of_le (by rw [sgn_len]; omega)]
theorem at_one {z : Str} {c i : Nat} : StrLaws.At z ⟨#[c]⟩ z.length i ↔ (sgn z)[i]? = some c := StrLaws.subAt_one z c i
/-- a text as a prefix of another -/
theorem subAt_pre (x y : Str) : subAt x y 0 = ((sgn x).take y.length == sgn y) := by
  rw [StrLaws.subAt_eq]
  rfl
theorem removeprefix_sgn (x y : Str) : sgn (Txt.removeprefix x y) = if (sgn x).take y.length = sgn y then (sgn x).drop y.length else sgn x := by
  rw [StrLaws.removeprefix_eq, subAt_pre]
  by_cases h : (sgn x).take y.length = sgn y
  · have hl : y.length ≤ x.length := by
      have := congrArg List.length h
      rw [List.length_take, sgn_len, sgn_len] at this
      omega
    rw [if_pos h]
    have e : (decide (0 + y.length ≤ x.length) && ((sgn x).take y.length == sgn y)) = true := by
      rw [h]
      simp [hl]
    rw [if_pos e, sgn_mk]
    exact List.take_of_length_le (by rw [List.length_drop]; have := sgn_len x; unfold sgn at this; omega)
  · rw [if_neg h]
    have e : ¬ (decide (0 + y.length ≤ x.length) && ((sgn x).take y.length == sgn y)) = true := by
      simp [h]
    rw [if_neg e]
theorem get_split {l a b : List Nat} {c : Nat} (h : l = a ++ c :: b) (hc : c ∉ a) : l[a.length]? = some c ∧ ∀ k, k < a.length → l[k]? ≠ some c := by
  subst h
  refine ⟨by simp, fun k hk z => hc ?_⟩
  rw [List.getElem?_append_left hk] at z
  exact List.mem_of_getElem? z
theorem partition_none {x : Str} {c : Nat} (h : c ∉ sgn x) : Txt.partition x ⟨#[c]⟩ = (x, Str.empty, Str.empty) := by
  unfold Txt.partition
  rcases StrLaws.occ_head x ⟨#[c]⟩ 1 (Nat.le_refl _) with ⟨e, _⟩ | ⟨i, r, e, ha, _⟩
  · rw [e]
  · exact absurd (List.mem_of_getElem? (at_one.mp ha)) h
theorem partition_at {x : Str} {c : Nat} {a b : List Nat} (h : sgn x = a ++ c :: b) (hc : c ∉ a) : Txt.partition x ⟨#[c]⟩ = (⟨a.toArray⟩, ⟨#[c]⟩, ⟨b.toArray⟩) := by
  obtain ⟨g1, g2⟩ := get_split h hc
  unfold Txt.partition
  rcases StrLaws.occ_head x ⟨#[c]⟩ 1 (Nat.le_refl _) with ⟨e, hn⟩ | ⟨i, r, e, ha, hn⟩
  · exact absurd (at_one.mpr g1) (hn a.length)
  · have hi : i = a.length := by
      have h1 := at_one.mp ha
      rcases Nat.lt_trichotomy i a.length with q | q | q
      · exact absurd h1 (g2 i q)
      · exact q
      · exact absurd (at_one.mpr g1) (hn a.length q)
    subst hi
    rw [e]
    have e1 : strSub x 0 a.length = ⟨a.toArray⟩ := sgn_inj (by
      show (strSub x 0 a.length).cps.toList = _
      rw [StrLaws.strSub_toList, sgn_mk]
      show ((sgn x).drop 0).take (a.length - 0) = a
      rw [h]
      simp)
    have e2 : strSub x (a.length + (⟨#[c]⟩ : Str).length) x.length = ⟨b.toArray⟩ := sgn_inj (by
      show (strSub x _ x.length).cps.toList = _
      rw [StrLaws.strSub_toList, sgn_mk]
      show ((sgn x).drop (a.length + 1)).take (x.length - (a.length + 1)) = b
      have hl := sgn_len x
      rw [h, List.length_append, List.length_cons] at hl
      rw [h, ← List.drop_drop, List.drop_left, List.drop_succ_cons, List.drop_zero]
      exact List.take_of_length_le (by omega))
    show (strSub x 0 a.length, (⟨#[c]⟩ : Str), strSub x (a.length + (⟨#[c]⟩ : Str).length) x.length) = _
    rw [e1, e2]
/-- a sign in a text -/
theorem dIn_sign {c : Nat} {z : Str} : dIn (.str ⟨#[c]⟩) (.str z) = some (.bl (decide (c ∈ sgn z))) := by
  have h := StrLaws.found_one z c
  show some (D.bl (!(Builtin.Str.occurrences z ⟨#[c]⟩ 0 z.length 1).isEmpty)) = _
  rw [h]
  rfl
theorem dNotIn_sign {c : Nat} {z : Str} : dNotIn (.str ⟨#[c]⟩) (.str z) = some (.bl (!decide (c ∈ sgn z))) := by
  have h := StrLaws.found_one z c
  show some (D.bl (!(!(Builtin.Str.occurrences z ⟨#[c]⟩ 0 z.length 1).isEmpty))) = _
  rw [h]
  rfl
/-- a decimal sign -/
def dg (c : Nat) : Bool := decide (48 ≤ c ∧ c ≤ 57)
theorem dg_in {c : Nat} : decide (c ∈ sgn (Str.ofString "0123456789")) = dg c := by
  have e : sgn (Str.ofString "0123456789") = [48, 49, 50, 51, 52, 53, 54, 55, 56, 57] := by decide +kernel
  rw [e]
  unfold dg
  apply decide_eq_decide.mpr
  simp only [List.mem_cons, List.not_mem_nil, or_false]
  omega
/-- truth values of a list -/
theorem blsD_map {α : Type} (f : α → Bool) : ∀ (l : List α), blsD (l.map fun c => .bl (f c)) = some (l.map f)
  | [] => rfl
  | x :: l => by simp [blsD, blsD_map f l]
theorem gAll_map {α : Type} (f : α → Bool) (l : List α) : gAll [.lst (l.map fun c => .bl (f c))] = some (.bl (l.all f)) := by
  show (blsD _).map _ = _
  rw [blsD_map]
  simp [List.all_map]
theorem gAny_map {α : Type} (f : α → Bool) (l : List α) : gAny [.lst (l.map fun c => .bl (f c))] = some (.bl (l.any f)) := by
  show (blsD _).map _ = _
  rw [blsD_map]
  simp [List.any_map]
theorem fold_lt : ∀ (l : List Nat) (acc : Nat), NumText.AllDigits l → l.foldl (fun acc c => acc * 10 + (c - 48)) acc < (acc + 1) * 10 ^ l.length
  | [], acc, _ => by simp
  | c :: l, acc, h => by
    have h1 := fold_lt l (acc * 10 + (c - 48)) h.tail
    have h2 := h.head
    rw [List.foldl_cons, List.length_cons, Nat.pow_succ]
    have h3 : (acc * 10 + (c - 48) + 1) * 10 ^ l.length ≤ ((acc + 1) * 10) * 10 ^ l.length := Nat.mul_le_mul_right _ (by omega)
    have h4 : (acc + 1) * 10 * 10 ^ l.length = (acc + 1) * (10 ^ l.length * 10) := by rw [Nat.mul_assoc, Nat.mul_comm 10]
    omega
theorem digitsVal_lt (l : List Nat) (h : NumText.AllDigits l) : NumText.digitsVal l < 10 ^ l.length := by
  have := fold_lt l 0 h
  rw [Nat.zero_add, Nat.one_mul] at this
  exact this
end FL
set_option Elab.async false
set_option linter.all false
set_option maxRecDepth 100000
namespace FL
open PySem
open PySem.Spec
open L2
/-- what the clauses wish, one after the other -/
def wAsL (K : PySem.W.Frag) (i : Nat) (Wo : WX) (D : Ends) : List (Value × (Addr → Value → Option Addr → TS)) → WX
  | [] => Wo
  | p :: r => wAs K p.1 i p.2 (wAsL K i Wo D r) D
inductive HdsAs (X : Cx) (n : Str) : List ExceptHandler → List (Value × (Addr → Value → Option Addr → TS)) → Prop
  | nil : HdsAs X n [] []
  | cons {x : Str} {c : Value} {ts : Addr → Value → Option Addr → TS} {s0 : Stmt} {st : List Stmt} {np hp : Pos} {hs : List ExceptHandler} {l : List (Value × (Addr → Value → Option Addr → TS))} (nm : Names X x c)
      (su : ∀ (a : Addr) (oe : Obj) (cls : Value) (d : Option Addr) (pn : List (Addr × Obj)), Zc cls d oe → (∃ vs, oe.data = .fields vs) → PSs (X.suite a ((a, oe) :: pn)) (s0 :: st) (ts a cls d)) (r : HdsAs X n hs l) :
      HdsAs X n (.ExceptHandler (some (.Name x np)) (some n) (s0 :: st) hp :: hs) ((c, ts) :: l)
section
variable {X : Cx} {body : List Stmt} {h₀ : ExceptHandler} {hds : List ExceptHandler} {l : List (Value × (Addr → Value → Option Addr → TS))} {pos : Pos} {tb : WX → TS} {Wo : WX} {i : Nat} {n : Str}
theorem ps_tryL (hst : X.stack = X.env :: X.outer) (hfr0 : X.env.frame = some X.env.locals) (hND : X.N.Nodup) (hix : X.N[i]? = some n) (hloc0 : X.env.kindOf n = some .local) (tko : Takes X Wo)
    (hbd : ∀ (W : WX) (pn : List (Addr × Obj)) (xe : Value → Shared → Prop), Takes (X.tr pn xe) W → PassesOwn (model X.prog X.w) X.A X.env xe → PSs (X.tr pn xe) body (tb W))
    (hcl : HdsAs X n (h₀ :: hds) l) : PS X (.Try body (h₀ :: hds) [] [] pos) (fun D σ H => tb (wAsL X.K i Wo D l) D σ H) := by
  refine ⟨fun pins s σ H D I0 hw => ?_⟩
  have okk := I0.ok
  have hfrs : X.A.frames = some (X.env :: X.outer) := by rw [okk.frames, hst]
  have hlc : Loc X.env.scope n := .inl hloc0
  refine wpAny_Try_except (wpAny_mono ((hbd (wAsL X.K i Wo D l) (X.pn ++ pins) (fun e s₁ => wpAny (model X.prog X.w) X.A (noteFrame e X.env) (fun _ s₂ => wpAny (model X.prog X.w) X.A (setFlight e none) (fun _ s₃ =>
    wpAny (model X.prog X.w) X.A (handleBy e X.env (h₀ :: hds)) (SP X pins D) X.xe s₃) X.xe s₂) X.xe s₁) (fun u sx xx => ?_) PassesOwn.looking).run [] s σ H D (I0.toTry _) hw) (fun f sf hsp => ?_) (fun e sf hef => hef))
  · obtain ⟨a, B, sI, pins', σb, Hb, cls, d, rfl, Jt, nbs, up0, sky, nA, osE, agr, wish⟩ := xx
    have J0 : Inv X pins σb Hb sI := Jt.ofTry okk
    have skyX : Sky B (X.env :: X.outer) a (Zc cls d) X.env.locals sx.heap := by rw [← hst]; exact sky
    show wpAny (model X.prog _) X.A (noteFrame (.ref a) X.env) _ _ _
    refine Sky.land Zc.steady hfrs hfr0 skyX fun hL flL upL => ?_
    have JL : Inv X pins σb Hb { sx with heap := hL } := J0.landed nbs flL.1 (up0.trans upL) osE agr
    obtain ⟨oeL, vsL, heL, hzL, hdL⟩ := flL.there
    have away : a ∉ frs (X.env :: X.outer) := fun hmem => by
      obtain ⟨_, o', e', hnf⟩ := flL.2.2.1.mem hmem
      rw [heL] at e'
      cases e'
      exact hnf _ hdL
    have aL : a ≠ X.env.locals := fun z => away (List.mem_filterMap.mpr ⟨X.env, List.mem_cons_self, by rw [hfr0, z]⟩)
    have aF : a ∉ X.fs := fun hmem => by
      obtain ⟨e, hef, q⟩ := List.mem_filterMap.mp hmem
      exact away (List.mem_filterMap.mpr ⟨e, List.mem_cons_of_mem _ hef, q⟩)
    have SL := JL.suite heL hdL nA aL aF
    have goL : ∀ {hs' : List ExceptHandler} {l' : List (Value × (Addr → Value → Option Addr → TS))}, HdsAs X n hs' l' → wAsL X.K i Wo D l' cls d σb Hb →
        wpAny (model X.prog X.w) X.A (handleBy (.ref a) X.env hs') (SP X pins D) X.xe { sx with heap := hL } := by
      intro hs' l' hk
      induction hk with
      | nil =>
        intro wz
        refine wpAny_handleBy_nil ?_
        obtain ⟨k1, k2, k3, oe, vs, T, oT, ts', hef, hz, hd, h1, hr⟩ := id flL
        unfold PySem.passOn
        refine wpAny_bind (wpAny_field hef hd h1 ?_)
        rw [if_neg (show ¬ ((Value.ref T == Value.none) = true) by simp)]
        have last : wpAny (model X.prog X.w) X.A (setFlight (.ref a) X.env.frame) (fun _ s4 => wpAny (model X.prog X.w) X.A (throw (.ref a) : Sem Flow) (SP X pins D) X.xe s4) X.xe { sx with heap := hL } := by
          rw [hfr0]
          refine HandSPX.setFlight_upZ flL fun h4 hh4 up4 => wpAny_throw (tko _ _ ?_)
          exact ⟨a, B, sI, pins, σb, Hb, cls, d, rfl, J0, nbs, (up0.trans upL).trans up4, .inr (.inr (by rw [hst]; exact hh4)), nA, osE, agr, wz⟩
        first
          | exact wpAny_bind (wpAny_pure (wpAny_bind last))
          | exact wpAny_bind last
      | @cons x c ts s0 st np hp hdsR l2 nm su r ih =>
        intro wz
        obtain ⟨b, hb1, hyes, hno⟩ := wz
        refine wpAny_handleBy_cons (codeAny_handlers_test ?_) (fun q => nomatch q)
        have LT : PySem.W.Looks (model X.prog X.w) hL (typeOf (.ref a)) cls := fun A Q E s k q => wpAny_typeOf_ref (k _ _ heL) (by rw [hzL.1]; exact q)
        have LM := PySem.W.exm_one (M := model X.prog X.w) (JL.kIn) LT hb1
        have tst : ∀ {Q : Value → Shared → Prop} {E : Value → Shared → Prop}, Q c { sx with heap := hL } → wpAny (model X.prog X.w) (X.A.mark (some (.ref a))) (eval (.Name x np) X.env) Q E { sx with heap := hL } := fun {Q E} q => by
          obtain ⟨hg, hdbg, hmem | ⟨hmem, hv, hnn⟩⟩ := nm
          · exact ld_glob (X := X.suite a ((a, oeL) :: (X.pn ++ pins))) SL hg hmem q hdbg
          · exact ld_blt (X := X.suite a ((a, oeL) :: (X.pn ++ pins))) SL hg hmem hv q hnn hdbg
        refine tst (LM.here ?_)
        cases b with
        | true =>
          refine (codeAny_handlers_suite_as ?_)
          refine HandSPX.lands_againZ flL fun h4 flz up4 => ?_
          have J4 : Inv X pins σb Hb { sx with heap := h4 } := J0.landed nbs flz.1 ((up0.trans upL).trans up4) osE agr
          obtain ⟨oez, vsz, he4, hz4, hd4⟩ := flz.there
          have S4 := J4.suite he4 hd4 nA aL aF
          refine store_ok (X := X.suite a ((a, oez) :: (X.pn ++ pins))) (v := .ref a) S4 hND hix hlc rfl (fun s5 S5 => ?_) (.inr hloc0)
          refine wpAny_mono ((su a oez cls d (X.pn ++ pins) hz4 ⟨_, hd4⟩).run [] s5 _ Hb _ S5 (hyes rfl a nA)) (fun f s6 hsp => ?_) (fun _ _ z => False.elim z)
          have ende : ∀ {σz : St} {Hz : Hp} {Q : Shared → Prop}, Inv (X.suite a ((a, oez) :: (X.pn ++ pins))) [] σz Hz s6 → (∀ s7, Inv X pins (σz.set i none) Hz s7 → Q s7) →
              wpAny (model X.prog X.w) X.A (do bindName X.env n .none; unbindBehindTheSuite X.env n hp) (fun _ s7 => Q s7) X.xe s6 := fun {σz Hz Q} Sz hq => gone_ok (Sz.unsuite okk) hND hix hloc0 hq
          cases f with
          | next =>
            obtain ⟨σz, Hz, Sz, qz⟩ := hsp
            exact ende Sz fun s7 J7 => ⟨_, _, J7, qz⟩
          | brk =>
            obtain ⟨σz, Hz, Sz, qz⟩ := hsp
            exact ende Sz fun s7 J7 => ⟨_, _, J7, qz⟩
          | cont =>
            obtain ⟨σz, Hz, Sz, qz⟩ := hsp
            exact ende Sz fun s7 J7 => ⟨_, _, J7, qz⟩
          | ret u =>
            obtain ⟨vz, σz, Hz, Sz, rz, qz⟩ := hsp
            exact ende Sz fun s7 J7 => ⟨_, _, _, J7, rz, qz⟩
        | false =>
          show wpAny _ X.A (handleBy (.ref a) X.env hdsR) _ _ _
          exact ih (hno rfl)
    exact goL hcl wish
  · cases f with
    | next =>
      obtain ⟨σf, Hf, Jf, q⟩ := hsp
      exact wpAny_execs_nil ⟨σf, Hf, Jf.ofTry okk, q⟩
    | brk =>
      obtain ⟨σf, Hf, Jf, q⟩ := hsp
      exact ⟨σf, Hf, Jf.ofTry okk, q⟩
    | cont =>
      obtain ⟨σf, Hf, Jf, q⟩ := hsp
      exact ⟨σf, Hf, Jf.ofTry okk, q⟩
    | ret u =>
      obtain ⟨v, σf, Hf, Jf, r, q⟩ := hsp
      exact ⟨v, σf, Hf, Jf.ofTry okk, r, q⟩
end
def catchL (xt : List (String × String × Bool)) (i : Nat) (e : Err) (ev' : Ev) : List (String × (Err → MS)) → Option OS
  | [] => some (.er e ev')
  | p :: r => match lkX xt e.x p.1 with
    | some true => ((setN i ev').bind (p.2 e)).bind (mapN i)
    | some false => catchL xt i e ev' r
    | none => none
def sTryL (xt : List (String × String × Bool)) (i : Nat) (cb : MS) (cl : List (String × (Err → MS))) : MS := fun ev => match cb ev with
  | some (.er e ev') => catchL xt i e ev' cl
  | o => o
/-- the reading of a clause's suite -/
def tsOf (K : PySem.W.Frag) (xt : List (String × String × Bool)) (C : String) (i : Nat) (cs : Err → MS) : Addr → Value → Option Addr → TS := fun a cls d => fun D σ H =>
  ∃ (ev : Ev) (I : Hp) (dd : Addr) (e : Err), cls = .ref (cad K e.x) ∧ d = some dd ∧ lkX xt e.x C = some true ∧ Rel K σ ev I H ∧ InX K i a dd e σ H I ∧ PostS K W0 (cs e) σ ev I H D
/-- a clause that is hit -/
theorem hit {X : Cx} {W : WX} {xt : List (String × String × Bool)} {C : String} {i : Nat} {cs : Err → MS} {e : Err} {σ σ' : St} {ev ev' : Ev} {I H I' H' : Hp} {En : Ends} {dd a : Addr} (ql : lkX xt e.x C = some true) (s' : Step σ ev I H σ' ev' I' H') (r' : Rel X.K σ' ev' I' H') (xd : XD X.K I' H' dd e)
    (h : PostS X.K W (fun _ => ((setN i ev').bind (cs e)).bind (mapN i)) σ ev I H En) :
    tsOf X.K xt C i cs a (.ref (cad X.K e.x)) (some dd) { nx := fun σ' H' => En.nx (σ'.set i none) H', rt := En.rt, bk := fun σ' H' => En.bk (σ'.set i none) H', ct := fun σ' H' => En.ct (σ'.set i none) H' } (σ'.set i (some (.ref a))) H' := by
  unfold PostS at h
  dsimp only at h
  cases qn : setN i ev' with
  | none => rw [qn] at h; exact h.elim
  | some ev1 =>
    rw [qn] at h
    simp only [Option.bind_some] at h
    obtain ⟨s1, r1⟩ := set_none r' qn (some (.ref a))
    have hlt : i < σ'.length := by
      rw [← r'.len]
      exact (setN_some qn).2.2
    refine ⟨ev1, I', dd, e, rfl, rfl, ql, r1, ⟨List.getElem?_set_self hlt, xd⟩, ?_⟩
    have st := s'.trans s1
    unfold PostS
    cases qs : cs e ev1 with
    | none => rw [qs] at h; exact h.elim
    | some o2 =>
      rw [qs] at h
      simp only [Option.bind_some] at h
      cases o2 with
      | er e2 ev2 => exact h.elim
      | nx ev2 =>
        simp only [mapN] at h
        cases q3 : setN i ev2 with
        | none => rw [q3] at h; exact h.elim
        | some ev3 =>
          rw [q3] at h
          intro σ2 I2 H2 s2 r2
          obtain ⟨s3, r3⟩ := set_none r2 q3 none
          exact h _ I2 H2 ((st.trans s2).trans s3) r3
      | bk ev2 =>
        simp only [mapN] at h
        cases q3 : setN i ev2 with
        | none => rw [q3] at h; exact h.elim
        | some ev3 =>
          rw [q3] at h
          intro σ2 I2 H2 s2 r2
          obtain ⟨s3, r3⟩ := set_none r2 q3 none
          exact h _ I2 H2 ((st.trans s2).trans s3) r3
      | ct ev2 =>
        simp only [mapN] at h
        cases q3 : setN i ev2 with
        | none => rw [q3] at h; exact h.elim
        | some ev3 =>
          rw [q3] at h
          intro σ2 I2 H2 s2 r2
          obtain ⟨s3, r3⟩ := set_none r2 q3 none
          exact h _ I2 H2 ((st.trans s2).trans s3) r3
      | rt rv ev2 =>
        simp only [mapN] at h
        cases q3 : setN i ev2 with
        | none => rw [q3] at h; exact h.elim
        | some ev3 =>
          rw [q3] at h
          intro σ2 I2 H2 v s2 r2 hv
          obtain ⟨s3, r3⟩ := set_none r2 q3 none
          refine h _ I2 H2 v ((st.trans s2).trans s3) r3 ?_
          cases rv with
          | d d => exact hv
          | fr c =>
            obtain ⟨p, g1, g2, g3, g4⟩ := hv
            refine ⟨p, g1, ?_, g3, g4⟩
            rcases g2 with g2 | g2
            · exact .inl (Classical.byContradiction fun z => st.there p z g2)
            · exact (st.lown p g2).symm
/-- the clauses of a try -/
inductive ClOk (X : Cx) (xt : List (String × String × Bool)) (i : Nat) (n : Str) : List ExceptHandler → List (String × (Err → MS)) → Prop
  | nil : ClOk X xt i n [] []
  | cons {C : String} {cs : Err → MS} {s0 : Stmt} {st : List Stmt} {np hp : Pos} {hs : List ExceptHandler} {l : List (String × (Err → MS))} (nm : Names X (Str.ofString C) (.ref (cad X.K C)))
      (su : ∀ (a dd : Addr) (oe : Obj) (cls : Value) (d : Option Addr) (pn : List (Addr × Obj)) (e : Err), Zc cls d oe → (∃ vs, oe.data = .fields vs) → cls = .ref (cad X.K e.x) → d = some dd → lkX xt e.x C = some true → SXB (X.suite a ((a, oe) :: pn)) i a dd e (s0 :: st) (cs e)) (r : ClOk X xt i n hs l) :
      ClOk X xt i n (.ExceptHandler (some (.Name (Str.ofString C) np)) (some n) (s0 :: st) hp :: hs) ((C, cs) :: l)
def tsL (K : PySem.W.Frag) (xt : List (String × String × Bool)) (i : Nat) : List (String × (Err → MS)) → List (Value × (Addr → Value → Option Addr → TS))
  | [] => []
  | p :: r => (.ref (cad K p.1), tsOf K xt p.1 i p.2) :: tsL K xt i r
theorem ClOk.hds {X : Cx} {xt : List (String × String × Bool)} {i : Nat} {n : Str} : ∀ {hs : List ExceptHandler} {l : List (String × (Err → MS))}, ClOk X xt i n hs l → HdsAs X n hs (tsL X.K xt i l)
  | _, _, .nil => .nil
  | _, _, .cons nm su r => .cons nm (fun a oe cls d pn hz hv => by
      refine .mk fun pins s σ H D I h => ?_
      obtain ⟨ev, J, dd, e, h1, h2, h3, h4, h5, h6⟩ := h
      obtain ⟨t, p, sim⟩ := su a dd oe cls d pn e hz hv h1 h2 h3
      exact p.run pins s σ H D I (sim σ ev J H D h4 h5 h6)) r.hds
theorem catch_ok {X : Cx} {W : WX} {xt : List (String × String × Bool)} {i : Nat} {e : Err} {σ σ' : St} {ev ev' : Ev} {I H I' H' : Hp} {En : Ends} {dd : Addr} (T : XtOk X.K xt) (s' : Step σ ev I H σ' ev' I' H') (r' : Rel X.K σ' ev' I' H') (xd : XD X.K I' H' dd e) :
    ∀ {cl : List (String × (Err → MS))}, PostS X.K W (fun _ => catchL xt i e ev' cl) σ ev I H En → wAsL X.K i W En (tsL X.K xt i cl) (.ref (cad X.K e.x)) (some dd) σ' H'
  | [], h => h σ' I' H' dd s' r' xd
  | p :: r, h => by
    have h0 := h
    unfold PostS catchL at h
    dsimp only at h
    cases ql : lkX xt e.x p.1 with
    | none => rw [ql] at h; exact h.elim
    | some b =>
      refine ⟨b, lkX_ok T ql, fun hb1 a ha => ?_, fun hb0 => ?_⟩
      · subst hb1
        refine hit (W := W) ql s' r' xd ?_
        rw [ql] at h
        exact h
      · subst hb0
        refine catch_ok T s' r' xd (cl := r) ?_
        rw [ql] at h
        exact h
theorem ss_tryL {X : Cx} {W : WX} {xt : List (String × String × Bool)} {i : Nat} {n : Str} {body : List Stmt} {h₀ : ExceptHandler} {hds : List ExceptHandler} {pos : Pos} {cb : MS} {cl : List (String × (Err → MS))} (T : XtOk X.K xt) (hs : X.stack = X.env :: X.outer) (hf : X.env.frame = some X.env.locals) (hN : X.N.Nodup) (hi : X.N[i]? = some n) (hln : X.env.kindOf n = some .local)
    (tk : Takes X W)
    (hb : ∀ (W' : WX) (pn : List (Addr × Obj)) (xe : Value → Shared → Prop), Takes (X.tr pn xe) W' → PassesOwn (model X.prog X.w) X.A X.env xe → SB (X.tr pn xe) W' body cb)
    (hcl : ClOk X xt i n (h₀ :: hds) cl) : SS X W (.Try body (h₀ :: hds) [] [] pos) (sTryL xt i cb cl) := by
  refine ⟨_, ps_tryL (tb := fun W' => tSOf X.K W' cb) hs hf hN hi hln tk (fun W' pn xe t p => pss_of (hb W' pn xe t p)) hcl.hds, fun σ ev I H En rel h => ?_⟩
  refine ⟨ev, I, rel, ?_⟩
  have h0 := h
  unfold PostS sTryL at h
  unfold PostS
  cases q : cb ev with
  | none => rw [q] at h; exact h
  | some o =>
    rw [q] at h
    cases o with
    | nx ev' => exact h
    | bk ev' => exact h
    | ct ev' => exact h
    | rt r ev' => exact h
    | er e ev' => exact fun σ' I' H' dd s' r' xd => catch_ok T s' r' xd h
end FL
set_option Elab.async false
set_option linter.all false
set_option maxRecDepth 100000
namespace FL
open PySem
open PySem.Spec
open L2
section
open Sem (wp)
theorem enum_newT (la : Addr) (items : Array Value) (n : Nat) (dct : Option Addr) (sl : Array (Option Value)) :
    Meets (Builtin.«enumerate.__new__» ⟨[.type "enumerate", .ref la], []⟩) (fun _ R s => s.heap.get? la = some { cls := .type "tuple", dict := dct, data := .seq items n, slots := sl } ∧
      R (.ok (.ret (.ref (s.heap.push { cls := .type "tuple_iterator", data := .fields #[.ref la, .int 0 0] }).objs.size)))
        { s with heap := (s.heap.push { cls := .type "tuple_iterator", data := .fields #[.ref la, .int 0 0] }).push { data := .fields #[.none, .bool false, .ref s.heap.objs.size, rawInt 0, .none, .none], cls := .type "enumerate" } }) :=
  .of_wp fun prog w A R s hw => by
    obtain ⟨hpp, g, dd, tk, os⟩ := s
    obtain ⟨hT, hw⟩ := hw
    have hsubE := sub_enumerate
    have tupL : Heap.IsTuple (Shared.heap ⟨hpp, g, dd, tk, os⟩) la items := ⟨_, hT, rfl, n, rfl⟩
    wp_walk using AutoSeq1.wpAny_loadPart' hT
    refine wpAny_stack_any fun stt => wpAny_pure ?_
    split
    · rename_i c _ _ _ _ _
      cases c == Value.type "enumerate"
      · wp_walk using AutoSeq1.wpAny_loadPart' hT, wpAny_pyIter_tuple tupL
        exact ⟨_, rfl, hw⟩
      · wp_walk using AutoSeq1.wpAny_loadPart' hT, wpAny_pyIter_tuple tupL
        exact ⟨_, rfl, hw⟩
    · wp_walk using AutoSeq1.wpAny_loadPart' hT, wpAny_pyIter_tuple tupL
      exact ⟨_, rfl, hw⟩
variable {w : World} {prog : Program} {A : Around} {s : Shared} {E : Value → Shared → Prop}
theorem enum_callT {la : Addr} {items : Array Value} {Q : Value → Shared → Prop} (hT : s.heap.IsTuple la items)
    (hw : ∀ hb2, IsEnum hb2 (s.heap.objs.size + 1) s.heap.objs.size 0 .none → hb2.IsTupleIter s.heap.objs.size la 0 → hb2.objs.size = s.heap.objs.size + 2 →
      (∀ b o, s.heap.get? b = some o → hb2.get? b = some o) → Q (.ref (s.heap.objs.size + 1)) { s with heap := hb2 }) :
    wpAny (model prog w) A (call (.type "enumerate") [.ref la]) Q E s := by
  obtain ⟨⟨c, dct, dt, sl⟩, hl, hc, n, hd⟩ := hT
  have hc' : c = .type "tuple" := hc
  have hd' : dt = .seq items n := hd
  subst hc' hd'
  refine callType_new F.called_enumerate (by decide) (F.typeCall_enumerate_1 _) (F.newCall_enumerate_1 _) (fun ob => F.args_object_init_2 ob _) F.entry_enumerate_new
    (enum_newT la items n dct sl) ⟨hl, ?_⟩
  have hz : (s.heap.push { cls := .type "tuple_iterator", data := .fields #[.ref la, .int 0 0] }).objs.size = s.heap.objs.size + 1 := Heap.size_push ..
  show _ ∧ _
  rw [hz]
  have hE : IsEnum ((s.heap.push { cls := .type "tuple_iterator", data := .fields #[.ref la, .int 0 0] }).push
      { data := .fields #[.none, .bool false, .ref s.heap.objs.size, rawInt 0, .none, .none], cls := .type "enumerate" }) (s.heap.objs.size + 1) s.heap.objs.size 0 .none := by
    have q := Heap.get?_push_size (s.heap.push { cls := .type "tuple_iterator", data := .fields #[.ref la, .int 0 0] })
      (o := { data := .fields #[.none, .bool false, .ref s.heap.objs.size, rawInt 0, .none, .none], cls := .type "enumerate" }) rfl
    rw [hz] at q
    exact q
  exact ⟨⟨_, hE, rfl⟩, hw _ hE ⟨_, Heap.get?_push_of_some _ (Heap.get?_push_size _ rfl), rfl, rfl⟩ (by rw [Heap.size_push, hz]) fun b o x => Heap.get?_push_of_some _ (Heap.get?_push_of_some _ x)⟩
end
/-- a tuple's items with their numbers -/
def ItnT (K : PySem.W.Frag) (a : Addr) : It :=
  ⟨fun i H => ∃ (xs : List V) (x : V), SqT K H a xs ∧ xs[i]? = some x, fun i H v H' => ∃ T x, v = .ref T ∧ H T = none ∧ H' = upd H T (.tup [.int (i : Nat), x]) ∧ ∀ xs, SqT K H a xs → xs[i]? = some x, fun i H => ∃ xs : List V, SqT K H a xs ∧ xs.length ≤ i⟩
theorem turn_enumT {P : Program} {w : World} {K : PySem.W.Frag} {elts : List Expr} {kk : Nat} {tpos : Pos} (a e it : Addr) (hai : a ≠ it) (hae : e ≠ a) :
    Turn P w K (.Tuple elts kk tpos) (ItnT K a) [e, it] e (fun i h => (∃ old, IsEnum h e it ((i : Nat) : Int) old) ∧ h.IsTupleIter it a i ∧ e ≠ it) where
  mem := by simp
  obj := fun i h stt b hbb => by
    obtain ⟨⟨old, hev⟩, ⟨o, ho, hc, hd⟩, _⟩ := stt
    have e' : b = e ∨ b = it := by simpa using hbb
    rcases e' with z | z
    · rw [z]; exact ⟨_, hev, fun v q => nomatch q⟩
    · rw [z]; exact ⟨o, ho, fun vv q => by rw [hd] at q; cases q⟩
  keep := fun i h hb2 stt k => let ⟨⟨old, hev⟩, hi, hnev⟩ := stt; ⟨⟨old, k e (by simp) _ hev⟩, hi.at fun o q => k it (by simp) o q, hnev⟩
  item := by
    intro X hPp hw hK hc i pins s σ H E I hff stt hg
    subst hPp hw hK
    obtain ⟨⟨old, hev⟩, hitr, hnev⟩ := stt
    obtain ⟨xs, x, hqq, hx⟩ := hg
    obtain ⟨its, rvv, p, hz⟩ := I.tuple hqq
    obtain ⟨u, hu, ruu⟩ := rvv.get hx
    have helt : e < s.heap.objs.size := Heap.lt_size hev
    have hilt : it < s.heap.objs.size := by obtain ⟨_, q, _⟩ := hitr; exact Heap.lt_size q
    have D := Draws.tuple (prog := X.prog) (w := X.w) (A := X.A.in1) (I.ok.hd hc) it a hai its.toArray
    have hlt : i < its.toArray.size := by
      rw [List.size_toArray, ← rvv.length]
      exact (List.getElem?_eq_some_iff.mp hx).1
    refine wpAny_pyNext_enum_itemD D hev ⟨hitr, p⟩ hlt hnev (by simp [hnev, hae]) fun y hb2 tk hy ho st' hT hsz hk => ?_
    have eyu : y = u := by
      have : its.toArray[i]? = some u := by simpa using hu
      rw [this] at hy
      exact (Option.some.inj hy).symm
    subst eyu
    refine ⟨_, rfl, wpAny_letOwnedTupleGo_enum (s := { s with heap := hb2, toks := tk + 1 }) ho fun h'' he' sb => ?_⟩
    have hT2 : h''.get? s.heap.objs.size = some { cls := .type "tuple", data := .seq #[.int i tk, y] } := (sb.2 _ (Nat.ne_of_gt helt)).trans hT
    have fresh0 : ObjOk X.prog X.w (upd H s.heap.objs.size (.tup [.int (i : Nat), x])) h'' s.heap.objs.size (.tup [.int (i : Nat), x]) :=
      ⟨by show 2 ≤ sizeLine; decide, [.int i tk, y], .cons ⟨_, rfl⟩ (.cons ruu .nil), ⟨_, hT2, rfl, _, rfl⟩⟩
    have I1 : Inv X pins σ (upd H s.heap.objs.size (.tup [.int (i : Nat), x])) { s with heap := h'', toks := tk + 1 } :=
      I.turnedNew (ch := [e, it]) (fun b ob hbb q => (sb.2 b (fun z => hbb (by simp [z]))).trans (hk b ob (fun z => hbb (by simp [z])) (fun z => hbb (by simp [z])) q)) hff (Nat.le_refl _) fresh0
    refine ⟨.ref s.heap.objs.size, _, I1, rfl, ⟨_, x, rfl, I.hok.fresh (Nat.le_refl _), rfl, fun ys hy => by rw [I.tuple_inj hy hqq]; exact hx⟩, ⟨⟨y, ?_⟩, st'.1.at fun o q => (sb.2 it (Ne.symm hnev)).trans q, hnev⟩, fun b hbb => ?_⟩
    · rw [show ((i + 1 : Nat) : Int) = (i : Int) + 1 from rfl]
      exact he'
    · have hbs : b < s.heap.objs.size := by
        have e' : b = e ∨ b = it := by simpa using hbb
        rcases e' with z | z
        · rw [z]; exact helt
        · rw [z]; exact hilt
      rw [upd_ne (Nat.ne_of_lt hbs)]
      exact (hff b hbb).1
  done := by
    intro X hPp hw hK hc i pins s σ H E I hff stt hg
    subst hPp hw hK
    obtain ⟨⟨old, hev⟩, hitr, hnev⟩ := stt
    obtain ⟨xs, hqq, hx⟩ := hg
    obtain ⟨its, rvv, p, hz⟩ := I.tuple hqq
    obtain ⟨f0, f1, f2, f3, f4, f5⟩ := hff it (by simp)
    have hnone : its.toArray[i]? = none := by
      rw [Array.getElem?_eq_none]
      rw [List.size_toArray, ← rvv.length]
      exact hx
    have hTyE : s.TypeIs (.ref e) "enumerate" := ⟨_, hev, rfl⟩
    unfold pyNext
    refine wpAny_bind (wpAny_attempt (wpAny_callSpecial?_slot (name := Str.ofString "__next__") hTyE F.slot_enumerate_next
      (wpAny_call_entry F.slot_enumerate_next hTyE F.entry_enumerate_next ?_ (F.args_enumerate_next_1 _))))
    show wpAny _ _ (Bind.bind (field (.ref e) 2) _) _ _ _
    refine wpAny_bind (wpAny_field hev rfl (x := .ref it) rfl ?_)
    refine wpAny_bind (wpAny_nextOf_tuple_end (I.ok.hd hc) hitr p hnone fun hb2 y he' hx' => ?_)
    obtain ⟨o, ho, hcc⟩ := hx'
    refine wpAny_bind (wpAny_isInstance (T := "StopIteration") (b := true) ⟨o, ho, hcc⟩ isSubtype_stop (wpAny_pure ?_))
    exact ⟨rfl, I.turned (t' := s.toks) (fun b o hbb q => he' b o hbb q) f0 f1 f3 f4 f5⟩
  self := fun A i s Q E stt h => let ⟨⟨_, hev⟩, _⟩ := stt; wpAny_pyIter_enum hev h
def iEnumT (K : PySem.W.Frag) (ta : TA) : TI := fun σ H R => ta σ H fun vs H1 => ∃ a xs, vs = [.ref a] ∧ SqT K H1 a xs ∧ R (ItnT K a) H1
theorem pi_enumT {X : Cx} {e : Expr} {ta : TA} {p pos tpos : Pos} {elts : List Expr} {kk : Nat} (hg : Gl X "enumerate") (hm : X.mg "enumerate" = none) (ha : PA X [e] ta) (hs : starEach [e] X.env = [(false, eval e X.env)] := by rfl) :
    PI X (.Tuple elts kk tpos) (.Call (.Name "enumerate" p) [e] [] pos) (iEnumT X.K ta) := by
  refine ⟨fun pins s σ H R I hw => ?_⟩
  refine PyProof.Rows.Call_ (ld_blt I hg hm PyProof.Rows.boot_enumerate (PyProof.Rows.callWith_type1 (thn (ha.run pos pins s σ H _ I hw) fun us s1 ⟨vs, H1, I1, r1, qa⟩ => ?_) hs rfl))
  obtain ⟨a, xs, ex, hqq, q⟩ := qa
  subst ex
  cases r1 with
  | cons r rr =>
    cases rr
    cases r
    obtain ⟨its, rvv, pT, hz⟩ := I1.tuple hqq
    have hal : a < s1.heap.objs.size := by obtain ⟨o, ho, _⟩ := id pT; exact Heap.lt_size ho
    refine enum_callT pT fun hb2 hev hitr hsz hk => wpAny_pyIter_enum hev ?_
    have IB : Inv X pins σ H1 { s1 with heap := hb2 } := I1.kept (t' := s1.toks) hk
    refine ⟨s1.heap.objs.size + 1, [s1.heap.objs.size + 1, s1.heap.objs.size], _, _, H1, rfl, IB, turn_enumT a (s1.heap.objs.size + 1) s1.heap.objs.size (Nat.ne_of_lt hal) (Nat.ne_of_gt (Nat.lt_succ_of_lt hal)), ⟨⟨.none, hev⟩, hitr, Nat.succ_ne_self _⟩, fun b hbb => ?_, q⟩
    have e' : b = s1.heap.objs.size + 1 ∨ b = s1.heap.objs.size := by simpa using hbb
    have hlev : s1.heap.objs.size ≤ b := e'.elim (fun z => by rw [z]; exact Nat.le_succ _) fun z => by rw [z]; exact Nat.le_refl _
    exact I1.fpOk hlev (I1.hok.fresh hlev)
end FL
set_option Elab.async false
set_option linter.all false
set_option maxRecDepth 100000
namespace FL
open PySem
open PySem.Spec
open L2
def leP (a b : Int × Int) : Bool := !SrtO.lexB b a
def sortP (l : List (Int × Int)) : List (Int × Int) := l.mergeSort leP
theorem leP_iff {a b : Int × Int} : leP a b = true ↔ a.1 < b.1 ∨ (a.1 = b.1 ∧ a.2 ≤ b.2) := by
  unfold leP
  cases h : SrtO.lexB b a with
  | true =>
    have := SrtO.lexB_iff.mp h
    simp only [Bool.not_true, Bool.false_eq_true, false_iff]
    omega
  | false =>
    have := SrtO.lexB_no.mp h
    simp only [Bool.not_false, true_iff]
    omega
theorem sortP_perm (l : List (Int × Int)) : (sortP l).Perm l := List.mergeSort_perm l leP
theorem sortP_pw (l : List (Int × Int)) : (sortP l).Pairwise fun a b => leP a b = true :=
  List.pairwise_mergeSort (fun a b c h1 h2 => by rw [leP_iff] at *; omega) (fun a b => by
    rw [Bool.or_eq_true, leP_iff, leP_iff]
    omega) l
theorem sortP_uniq {l m : List (Int × Int)} (h1 : l.Pairwise fun a b => leP a b = true) (h2 : l.Perm m) : l = sortP m :=
  List.Perm.eq_of_pairwise (le := fun a b => leP a b = true) (fun a b _ _ h3 h4 => by
    rw [leP_iff] at h3 h4
    exact Prod.ext (by omega) (by omega)) h1 (sortP_pw m) (h2.trans (sortP_perm m).symm)
def rSortD (K : PySem.W.Frag) : List V → Hp → VK → Prop := fun vs H Q => ∃ (a : Addr) (xs : List V) (ps : List (Int × Int)), vs = [V.ref a] ∧ SqL K H a xs ∧ xs.length = ps.length ∧
  (∀ z ∈ xs.zip ps, ∃ t, z.1 = V.ref t ∧ SqT K H t [.int z.2.1, .int z.2.2]) ∧
  ∀ ys p, ys.length = (sortP ps).length → (ys.zip (sortP ps)).Perm (xs.zip ps) → H p = none → Q (.ref p) (upd H p (.lst ys))
theorem zip_map {α β : Type} (f : α → β) : ∀ (l : List α) (m : List β), l.length = m.length → (∀ z ∈ l.zip m, f z.1 = z.2) → m = l.map f
  | [], [], _, _ => rfl
  | [], _ :: _, hbad, _ => nomatch hbad
  | _ :: _, [], hbad, _ => nomatch hbad
  | x :: l, y :: m, h, hzz => by
    rw [List.map_cons, ← zip_map f l m (by simpa using h) fun z hm => hzz z (List.mem_cons_of_mem _ hm), hzz (x, y) (List.mem_cons_self ..)]
theorem zip_self {α β : Type} (f : α → β) : ∀ (l : List α), l.zip (l.map f) = l.map fun x => (x, f x)
  | [] => rfl
  | x :: l => by rw [List.map_cons, List.zip_cons_cons, zip_self f l]; rfl
theorem mem_zip_left {α β : Type} : ∀ {l : List α} {m : List β} {x : α}, l.length = m.length → x ∈ l → ∃ y, (x, y) ∈ l.zip m
  | [], _, _, _, h => nomatch h
  | _ :: _, [], _, hbad, _ => nomatch hbad
  | a :: l, b :: m, x, h, hxx => by
    rcases List.mem_cons.mp hxx with rfl | hxx
    · exact ⟨b, List.mem_cons_self ..⟩
    · obtain ⟨y, hy⟩ := mem_zip_left (m := m) (by simpa using h) hxx
      exact ⟨y, List.mem_cons_of_mem _ hy⟩
section
variable {X : Cx}
theorem cr_sortD : CallR X (.builtin "sorted") (rSortD X.K) := by
  intro pins s σ H vs us Q I r hw
  obtain ⟨a, xs, ps, rfl, hs, hlen, hxx, q⟩ := hw
  obtain ⟨its, rv, hlst, hzz⟩ := I.list hs
  obtain ⟨u, rfl, ruu⟩ := vals1 r
  obtain rfl : u = Value.ref a := ruu
  have hp : ∀ x ∈ xs, ∃ p : Int × Int, ∃ t, x = V.ref t ∧ SqT X.K H t [.int p.1, .int p.2] := fun x hm => by
    obtain ⟨p, hp⟩ := mem_zip_left hlen hm
    obtain ⟨t, e, g⟩ := hxx _ hp
    exact ⟨p, t, e, g⟩
  obtain ⟨k, hk⟩ : ∃ k : V → Int × Int, ∀ x ∈ xs, ∃ t, x = V.ref t ∧ SqT X.K H t [.int (k x).1, .int (k x).2] := by
    classical
    refine ⟨fun x => if h : x ∈ xs then (hp x h).choose else (0, 0), fun x h => ?_⟩
    simp only [h, dif_pos]
    exact (hp x h).choose_spec
  have hkz : ∀ z ∈ xs.zip ps, k z.1 = z.2 := fun z hzz => by
    obtain ⟨t, e, g⟩ := hxx z hzz
    obtain ⟨t', e', g'⟩ := hk z.1 (List.of_mem_zip hzz).1
    rw [e] at e'
    cases e'
    have := I.tuple_inj g' g
    simp only [List.cons.injEq, V.int.injEq, and_true] at this
    exact Prod.ext this.1 this.2
  have hps : ps = xs.map k := zip_map k xs ps hlen hkz
  obtain ⟨e1, ee2⟩ := refs_back rv fun x m => by
    obtain ⟨t, e, _⟩ := hk x m
    exact ⟨t, e⟩
  refine SrtO.sorted_pairsO (k := fun u => k (backV u)) hlst.isList (by rw [← rv.length]; exact hzz) (fun v hv => ?_) fun h' d out h1 h2 kp hd hn => ?_
  · obtain ⟨t, rfl⟩ := ee2 v hv
    have hmt : V.ref t ∈ xs := by rw [e1]; exact List.mem_map.mpr ⟨_, hv, rfl⟩
    obtain ⟨t', e, ht⟩ := hk _ hmt
    cases e
    obtain ⟨its2, r2, ⟨o, ho, hc, n, hdd⟩, _⟩ := I.tuple ht
    obtain ⟨uu1, u2, rfl, ri, rj⟩ := vals2 r2
    obtain ⟨t1, rfl⟩ := ri
    obtain ⟨t2, rfl⟩ := rj
    exact ⟨t, o, t1, t2, n, rfl, ho, hc, hdd⟩
  · have h3 : ∀ u ∈ out, ∃ a, u = Value.ref a := fun u huo => ee2 u (h2.perm.mem_iff.mp huo)
    obtain ⟨n, hn⟩ := hn
    have hperm : (out.map backV).Perm xs := by
      rw [e1]
      exact h2.perm.map backV
    have hsrt : ((out.map backV).map k).Pairwise fun a b => leP a b = true := by
      rw [List.pairwise_map]
      rw [List.pairwise_map]
      exact List.Pairwise.imp (fun {x y} hxy => by
        unfold leP
        rw [show SrtO.lexB (k (backV y)) (k (backV x)) = false from hxy]
        rfl) h1
    have hsp : (out.map backV).map k = sortP ps := sortP_uniq hsrt (by rw [hps]; exact hperm.map k)
    have hz1 : ((out.map backV).zip (sortP ps)).Perm (xs.zip ps) := by
      rw [← hsp, hps, zip_self, zip_self]
      exact hperm.map _
    refine ⟨.ref d, upd H d (.lst (out.map backV)), I.laid (t' := s.toks) kp hd ⟨?_, out, n, vals_back h3, hn⟩, rfl, q _ d (by rw [← hsp]; simp) hz1 (I.hok.fresh hd)⟩
    rw [hperm.length_eq]
    exact hzz
/-- data that is pairs of ints -/
def pD (p : Int × Int) : D := .tup [.int p.1, .int p.2]
def pairsD : List D → Option (List (Int × Int))
  | [] => some []
  | .tup [.int a, .int b] :: r => (pairsD r).map ((a, b) :: ·)
  | _ => none
theorem pairsD_map : ∀ (ps : List (Int × Int)), pairsD (ps.map pD) = some ps
  | [] => rfl
  | p :: ps => by simp [pairsD, pD, pairsD_map ps]
theorem pairsD_eq : ∀ {ds : List D} {ps : List (Int × Int)}, pairsD ds = some ps → ds = ps.map pD
  | [], ps, h => by cases h; rfl
  | d :: ds, ps, h => by
    unfold pairsD at h
    split at h
    · cases ‹_ = []›
    · rename_i a b r e
      obtain ⟨ps', e1, rfl⟩ := Option.map_eq_some_iff.mp h
      cases e
      rw [pairsD_eq e1]
      rfl
    · cases h
def gSortP : List D → Option D
  | [.lst ds] => (pairsD ds).map fun ps => .lst ((sortP ps).map pD)
  | _ => none
theorem Rs.zipped {K : PySem.W.Frag} {I : Hp} : ∀ {ps : List (Int × Int)} {vs : List V}, Rs K I (ps.map pD) vs → ∀ z ∈ vs.zip ps, R K I (pD z.2) z.1
  | [], vs, _, z, hzz => by cases vs <;> cases hzz
  | p :: ps, vs, h, z, hzz => by
    obtain ⟨v, r, rfl, h1, h2⟩ := Rs_cons.mp h
    rcases List.mem_cons.mp hzz with rfl | hzz
    · exact h1
    · exact Rs.zipped h2 z hzz
theorem Rs.of_zip {K : PySem.W.Frag} {I : Hp} : ∀ {ps : List (Int × Int)} {vs : List V}, vs.length = ps.length → (∀ z ∈ vs.zip ps, R K I (pD z.2) z.1) → Rs K I (ps.map pD) vs
  | [], [], _, _ => Rs_nil.mpr rfl
  | [], _ :: _, hbad, _ => nomatch hbad
  | _ :: _, [], hbad, _ => nomatch hbad
  | p :: ps, v :: vs, h, hzz => Rs_cons.mpr ⟨v, vs, rfl, hzz (v, p) (List.mem_cons_self ..), Rs.of_zip (by simpa using h) fun z hm => hzz z (List.mem_cons_of_mem _ hm)⟩
theorem R_pD {K : PySem.W.Frag} {I : Hp} {p : Int × Int} {v : V} (h : R K I (pD p) v) : ∃ t, v = .ref t ∧ SqT K I t [.int p.1, .int p.2] := by
  obtain ⟨t, vs, rfl, h1, h2⟩ := R_tup.mp h
  obtain ⟨a, b, rfl, h3, h4⟩ := h2.two
  rw [R_int.mp h3, R_int.mp h4] at h1
  exact ⟨t, rfl, h1⟩
theorem cs_sortP : CallS X (.builtin "sorted") gSortP := by
  refine ⟨_, cr_sortD, fun I H ds vs d Q l e rs k => ?_⟩
  unfold gSortP at e
  split at e
  · rename_i ds
    obtain ⟨ps, e1, rfl⟩ := Option.map_eq_some_iff.mp e
    rw [pairsD_eq e1] at rs
    obtain ⟨v, rfl, h⟩ := rs.one
    obtain ⟨a, ws, rfl, h1, h2⟩ := R_lst.mp h
    have hlst : ws.length = ps.length := by rw [← h2.length, List.length_map]
    refine ⟨a, ws, ps, rfl, l.sqL h1, hlst, fun z hzz => ?_, fun ys p hy hperm hp => ?_⟩
    · obtain ⟨t, ee2, e3⟩ := R_pD (h2.zipped z hzz)
      exact ⟨t, ee2, l.sqT e3⟩
    · have ex := Ex.alloc (o := HO.lst ys) l hp
      exact k _ _ _ ex (R_lst.mpr ⟨p, ys, rfl, SqL.of upd_same, Rs.of_zip hy fun z hzz => R.mono ex.le _ _ (h2.zipped z (hperm.mem_iff.mp hzz))⟩)
  · cases e
def intsD : List D → Option (List Int)
  | [] => some []
  | .int i :: r => (intsD r).map (i :: ·)
  | _ => none
theorem intsD_map : ∀ (ns : List Int), intsD (ns.map D.int) = some ns
  | [] => rfl
  | n :: ns => by simp [intsD, intsD_map ns]
theorem intsD_ok {K : PySem.W.Frag} {I : Hp} : ∀ {ds : List D} {ns : List Int} {vs : List V}, intsD ds = some ns → Rs K I ds vs → vs = ns.map V.int
  | [], ns, vs, e, r => by
    cases e
    rw [Rs_nil.mp r]
    rfl
  | d :: ds, ns, vs, e, r => by
    obtain ⟨v, w, rfl, h1, h2⟩ := Rs_cons.mp r
    cases d with
    | int q =>
      simp only [intsD] at e
      obtain ⟨ns', e1, rfl⟩ := Option.map_eq_some_iff.mp e
      rw [R_int.mp h1, intsD_ok e1 h2]
      rfl
    | _ => simp [intsD] at e
def gSum : List D → Option D
  | [.lst ds] => (intsD ds).map fun ns => .int ns.sum
  | _ => none
theorem cs_sum (hc : X.calm = true) : CallS X (.builtin "sum") gSum := by
  refine ⟨_, cr_sum hc, fun I H ds vs d Q l e rs k => ?_⟩
  unfold gSum at e
  split at e
  · obtain ⟨ns, e1, rfl⟩ := Option.map_eq_some_iff.mp e
    obtain ⟨v, rfl, h⟩ := rs.one
    obtain ⟨p, ws, rfl, h1, h2⟩ := R_lst.mp h
    rw [intsD_ok e1 h2] at h1
    exact ⟨p, ns, rfl, l.sqL h1, k I H _ (Ex.refl l) (R_int.mpr rfl)⟩
  · cases e
def IpS (X : Cx) (op : Operator) (g : D → D → Option D) : Prop := ∃ r, PIp X op r ∧
  ∀ (I H : Hp) (a b : D) (x y : V) (d : D) (Q : VK), Le I H → g a b = some d → R X.K I a x → R X.K I b y → (∀ I' H' v, Ex I H I' H' → R X.K I' d v → Q v H') → r x y H Q
theorem ip_addS : IpS X .Add dAddI := by
  refine ⟨_, ip_add, fun I H a b x y d Q l e rxx ry k => ?_⟩
  unfold dAddI at e
  split at e
  · cases e
    exact ⟨_, _, R_int.mp rxx, R_int.mp ry, k I H _ (Ex.refl l) (R_int.mpr rfl)⟩
  · cases e
theorem ip_subS : IpS X .Sub dSub := by
  refine ⟨_, ip_sub, fun I H a b x y d Q l e rxx ry k => ?_⟩
  unfold dSub at e
  split at e
  · cases e
    exact ⟨_, _, R_int.mp rxx, R_int.mp ry, k I H _ (Ex.refl l) (R_int.mpr rfl)⟩
  · cases e
theorem PIp.or {op : Operator} {r r' : TIp} (h : PIp X op r) (h' : PIp X op r') : PIp X op (fun x y H Q => r x y H Q ∨ r' x y H Q) := by
  intro pins s σ H x y v u Q I rxx ry q
  rcases q with q | q
  · exact h pins s σ H x y v u Q I rxx ry q
  · exact h' pins s σ H x y v u Q I rxx ry q
def dAddIS : D → D → Option D
  | .int i, .int j => some (.int (i + j))
  | .str i, .str j => if i.length + j.length ≤ sizeLine then some (.str (i ++ j)) else none
  | _, _ => none
theorem ip_addIS : IpS X .Add dAddIS := by
  refine ⟨_, PIp.or ip_add iop_add_str, fun I H a b x y d Q l e rxx ry k => ?_⟩
  unfold dAddIS at e
  split at e
  · cases e
    exact .inl ⟨_, _, R_int.mp rxx, R_int.mp ry, k I H _ (Ex.refl l) (R_int.mpr rfl)⟩
  · split at e
    · rename_i hzz
      cases e
      exact .inr ⟨_, _, R_str.mp rxx, R_str.mp ry, hzz, k I H _ (Ex.refl l) (R_str.mpr rfl)⟩
    · cases e
  · cases e
variable {W : WX} {e : Expr} {pos pos' p : Pos} {x : Str}
def sAug (i : Nat) (g : D → D → Option D) (ce : M D) : MS := sE (mVar i) fun a => sE ce fun b ev => (g a b).bind fun d => (setD i d ev).map .nx
theorem ss_aug (i : Nat) {op : Operator} {g : D → D → Option D} {ce : M D} (ho : IpS X op g) (hN : X.N.Nodup) (hi : X.N[i]? = some x) (hxx : Loc X.env.scope x) (hf : X.fn x = true ∨ X.env.scope.names.lookup x = some .local) (he : SE X W e ce) : SS X W (.AugAssign (.Name x pos') op e pos) (sAug i g ce) := by
  obtain ⟨r, ho, hg⟩ := ho
  obtain ⟨te, pe, se⟩ := he
  refine ⟨_, ps_aug hN hi hxx pe ho hf, fun σ ev I H En rel h => ?_⟩
  have h1 := h.expr
  unfold Post mVar at h1
  cases q : ev[i]? with
  | none => rw [q] at h1; exact h1.elim
  | some o =>
    rw [q] at h1
    cases o with
    | none => exact h1.elim
    | some s =>
      cases s with
      | own c => exact h1.elim
      | bor c => exact h1.elim
      | d a =>
        obtain ⟨v, hv, ra⟩ := rel.slot i _ q
        have h2 := h1 I H (Step.refl ..) rel
        refine ⟨v, hv, se σ ev I H _ rel (h2.expr.imp fun b ev1 I1 H1 s1 r1 h3 vy ry => ?_)⟩
        unfold PostS at h3
        dsimp only at h3
        cases eg : g a b with
        | none => rw [eg] at h3; exact h3.elim
        | some d =>
          rw [eg] at h3
          simp only [Option.bind_some] at h3
          cases es : setD i d ev1 with
          | none => rw [es] at h3; exact h3.elim
          | some ev2 =>
            rw [es] at h3
            refine hg I1 H1 a b v vy d _ r1.sub eg (R.mono s1.le _ _ ra) ry fun I' H' v' ex rv => ?_
            obtain ⟨s3, r3⟩ := set_data (r1.ex ex) es rv
            exact h3 _ _ _ (ex.step.trans s3) r3
def enumD (xs : List D) : List D := xs.zipIdx.map fun p => .tup [.int ((p.2 : Nat) : Int), p.1]
def mEnum (ca : M D) : M (List D) := ca.bind fun d => M.opt ((itemsD d).map enumD)
theorem enumD_get {xs : List D} {i : Nat} {d : D} (h : (enumD xs)[i]? = some d) : ∃ x, xs[i]? = some x ∧ d = .tup [.int ((i : Nat) : Int), x] := by
  unfold enumD at h
  rw [List.getElem?_map] at h
  obtain ⟨p, e, rfl⟩ := Option.map_eq_some_iff.mp h
  rw [List.getElem?_zipIdx] at e
  obtain ⟨x, ee2, rfl⟩ := Option.map_eq_some_iff.mp e
  exact ⟨x, ee2, by simp⟩
theorem enumD_len (xs : List D) : (enumD xs).length = xs.length := by simp [enumD]
theorem itOk_enum {K : PySem.W.Frag} {I : Hp} {J : It} {xs : List D} {vs : List V} (rs : Rs K I xs vs)
    (hgo : ∀ (i : Nat) (v : V) (I' H' : Hp), Le I I' → Le I' H' → vs[i]? = some v → J.go i H' ∧ ∀ w H'', J.yld i H' w H'' → ∃ T, w = .ref T ∧ H' T = none ∧ H'' = upd H' T (.tup [.int (i : Nat), v])) (hst : ∀ (I' H' : Hp), Le I I' → Le I' H' → J.stop vs.length H') : ItOk K J (enumD xs) I := fun I' H' l1 l2 => by
  refine ⟨fun i d e => ?_, by rw [enumD_len, rs.length]; exact hst I' H' l1 l2⟩
  obtain ⟨x, e1, rfl⟩ := enumD_get e
  obtain ⟨v, ee2, rv⟩ := rs.get e1
  obtain ⟨g1, g2⟩ := hgo i v I' H' l1 l2 ee2
  refine ⟨g1, fun w H'' hy => ?_⟩
  obtain ⟨T, rfl, hT, rfl⟩ := g2 w H'' hy
  have ex := Ex.alloc (o := HO.tup [.int ((i : Nat) : Int), v]) l2 hT
  exact ⟨_, ex, R_tup.mpr ⟨T, _, rfl, SqT.of upd_same, Rs_cons.mpr ⟨_, _, rfl, R_int.mpr rfl, Rs_cons.mpr ⟨_, _, rfl, R.mono (l1.trans ex.le) _ _ rv, Rs_nil.mpr rfl⟩⟩⟩⟩
theorem si_enum {elts : List Expr} {kk : Nat} {tpos : Pos} {ca : M D} (hm : X.mg "enumerate" = none) (hg : Gl X "enumerate") (ha : SE X W e ca) (hs : starEach [e] X.env = (false, eval e X.env) :: starEach [] X.env := by rfl) (hs2 : starEach [e] X.env = [(false, eval e X.env)] := by rfl) :
    SI X W (.Tuple elts kk tpos) (.Call (.Name "enumerate" p) [e] [] pos) (mEnum ca) := by
  obtain ⟨ta, pa, sa⟩ := ha
  refine ⟨_, PI.or (pi_enum hg hm (pa_cons pa pa_nil hs) hs2) (pi_enumT hg hm (pa_cons pa pa_nil hs) hs2), fun σ ev I H Q rel h => ?_⟩
  unfold Post mEnum M.bind at h
  cases q : ca ev with
  | none => rw [q] at h; exact h.elim
  | some o =>
    cases o with
    | er x ev' =>
      refine .inl (sa σ ev I H _ rel ?_)
      rw [q] at h
      unfold Post
      rw [q]
      exact h
    | ok d ev1 =>
      rw [q] at h
      dsimp only [M.opt] at h
      cases d with
      | lst xs =>
        refine .inl (sa σ ev I H _ rel ?_)
        unfold Post
        rw [q]
        intro I1 H1 s1 r1 v rv
        obtain ⟨a, vs, rfl, h1, h2⟩ := R_lst.mp rv
        refine ⟨a, vs, rfl, r1.sub.sqL h1, h I1 H1 s1 r1 _ (itOk_enum h2 (fun i v I' H' l1 l2 hv => ?_) fun I' H' l1 l2 => ⟨vs, l2.sqL (l1.sqL h1), Nat.le_refl _⟩)⟩
        have h' := l2.sqL (l1.sqL h1)
        refine ⟨⟨vs, v, h', hv⟩, fun w H'' hy => ?_⟩
        obtain ⟨T, x, rfl, hT, rfl, hxx⟩ := hy
        have := hxx vs h'
        rw [hv] at this
        cases this
        exact ⟨T, rfl, hT, rfl⟩
      | tup xs =>
        refine .inr (sa σ ev I H _ rel ?_)
        unfold Post
        rw [q]
        intro I1 H1 s1 r1 v rv
        obtain ⟨a, vs, rfl, h1, h2⟩ := R_tup.mp rv
        refine ⟨a, vs, rfl, r1.sub.sqT h1, h I1 H1 s1 r1 _ (itOk_enum h2 (fun i v I' H' l1 l2 hv => ?_) fun I' H' l1 l2 => ⟨vs, l2.sqT (l1.sqT h1), Nat.le_refl _⟩)⟩
        have h' := l2.sqT (l1.sqT h1)
        refine ⟨⟨vs, v, h', hv⟩, fun w H'' hy => ?_⟩
        obtain ⟨T, x, rfl, hT, rfl, hxx⟩ := hy
        have := hxx vs h'
        rw [hv] at this
        cases this
        exact ⟨T, rfl, hT, rfl⟩
      | _ => exact h.elim
end
end FL
set_option Elab.async false
set_option linter.all false
set_option maxRecDepth 100000
namespace FL
open PySem
open PySem.Spec
open PySem.Calls
open L2
open PyProof.Rows
theorem slot_bool_abs2 : Slot "bool" "__abs__" "int.__abs__" :=
  .of (n := "__abs__") (owner := "int") (by rw [typeLookup_type, builtinLookup_eq_fast]; kernel_rfl) (by decide +kernel) (by decide +kernel) (by decide +kernel)
    (by first | exact .inr (by decide +kernel) | exact .inl (by decide +kernel)) (by rw [isSubtype_type]; kernel_rfl)
section
variable {w : World} {prog : Program} {A : Around} {s : Shared} {E : Value → Shared → Prop}
theorem call_abs_bool {b : Bool} {Q : Value → Shared → Prop} (hk : ∀ u tk, Q (.int (if b = true then 1 else 0) u) { s with toks := tk }) :
    wpAny (model prog w) A (call (.builtin "abs") [.bool b]) Q E s := by
  refine call_function_entry kind_abs plain_abs entry_abs (args_abs (.bool b)) ?_
  unfold Builtin.«abs»
  refine wpAny_bind (m := oneArg "abs" _) ?_
  refine wpAny_pure ?_
  refine wpAny_bind (m := callSpecial? (.bool b) (Str.ofString "__abs__")) (wpAny_callSpecial?_slot (T := "bool") (name := Str.ofString "__abs__") rfl slot_bool_abs2
    (wpAny_call_entry slot_bool_abs2 (T := "bool") rfl entry_int_abs ?_ (args_int_abs _)))
  cases b
  · have hcase := hk s.toks (s.toks + 1)
    exact wpAny_ret_mkInt (wpAny_pure ⟨_, rfl, hcase⟩)
  · have hcase := hk s.toks (s.toks + 1)
    exact wpAny_ret_mkInt (wpAny_pure ⟨_, rfl, hcase⟩)
end
section
variable {X : Cx}
theorem call_absB : CallR X (.builtin "abs") (fun xs H Q => (∃ i, xs = [.int i] ∧ Q (.int (if i < 0 then -i else i)) H) ∨ (∃ b, xs = [.bl b] ∧ Q (.int (if b = true then 1 else 0)) H)) := by
  intro pins s σ H xs uus Q I rr hk
  rcases hk with ⟨i, rfl, q⟩ | ⟨b, rfl, q⟩
  · exact call_abs pins s σ H _ uus Q I rr ⟨i, rfl, q⟩
  · obtain ⟨u, rfl, rx⟩ := vals1 rr
    obtain rfl : u = Value.bool b := rx
    exact call_abs_bool fun u tk => ⟨.int (if b = true then 1 else 0), H, I.tok _, ⟨_, rfl⟩, q⟩
def gAbsB : List D → Option D
  | [.int i] => some (.int (if i < 0 then -i else i))
  | [.bl b] => some (.int (if b = true then 1 else 0))
  | _ => none
theorem cs_absB : CallS X (.builtin "abs") gAbsB := by
  refine ⟨_, call_absB, fun I H ds vs d Q l e rs k => ?_⟩
  unfold gAbsB at e
  split at e
  · cases e
    obtain ⟨v, rfl, hk⟩ := rs.one
    rw [R_int.mp hk]
    exact .inl ⟨_, rfl, k I H _ (Ex.refl l) (R_int.mpr rfl)⟩
  · cases e
    obtain ⟨v, rfl, hk⟩ := rs.one
    rw [R_bl.mp hk]
    exact .inr ⟨_, rfl, k I H _ (Ex.refl l) (R_int.mpr rfl)⟩
  · cases e
end
theorem toPys_pD : ∀ (ps : List (Int × Int)), toPys (ps.map pD) = some (ps.map fun p => .tuple [.int p.1, .int p.2])
  | [] => by simp [toPys]
  | p :: rr => by
    rw [List.map_cons, toPys, toPys_pD rr]
    simp [pD, toPy, toPys]
end FL
set_option Elab.async false
set_option linter.all false
set_option maxRecDepth 100000
namespace FL
open PySem
open PySem.Spec
open L2
def pP (p : Int × Int) : PyData := .tuple [.int p.1, .int p.2]
theorem toPy_pairs (ps : List (Int × Int)) : toPy (.lst (ps.map pD)) = some (.list (ps.map pP)) := by
  rw [toPy, toPys_pD]
  rfl
theorem lay_pairs : ∀ (ps : List (Int × Int)), PyData.canLayAll0 (ps.map pP) = true ∧ PyData.depthAll (ps.map pP) ≤ 1
  | [] => ⟨by simp [PyData.canLayAll0], by simp [PyData.depthAll]⟩
  | p :: r => by
    obtain ⟨h1, h2⟩ := lay_pairs r
    exact ⟨by simp [pP, PyData.canLayAll0, PyData.canLay0, h1], by simp [pP, PyData.depthAll, PyData.depth, h2]⟩
theorem shaped_pairs (ps : List (Int × Int)) : SeqAt.shaped (.list (ps.map pP)) = true := by
  obtain ⟨h1, h2⟩ := lay_pairs ps
  have h3 : (PyData.list (ps.map pP)).depth ≤ 64 := by rw [PyData.depth]; omega
  simp only [SeqAt.shaped, PyData.canLay0, h1, h3, decide_true, Bool.and_self]
theorem dEq_pairs (ps : List (Int × Int)) : dEq (.lst (ps.map pD)) (.lst (ps.map pD)) = some (.bl true) := by
  have h := SeqAt.canLay_of_shaped (shaped_pairs ps)
  simp only [dEq, dOr, dEqS, scV, dEqP, toPy_pairs, shaped_pairs, and_self, if_true]
  rw [SeqAt.eqv_refl _ h]
theorem dNe_pairs (ps : List (Int × Int)) : dNe (.lst (ps.map pD)) (.lst (ps.map pD)) = some (.bl false) := by
  rw [dNe, dEq_pairs]
  rfl
theorem toPy_nil : toPy (.lst []) = some (.list []) := toPy_pairs []
theorem dNe_nil (ps : List (Int × Int)) : dNe (.lst (ps.map pD)) (.lst []) = some (.bl (!ps.isEmpty)) := by
  have h2 := shaped_pairs []
  simp only [List.map_nil] at h2
  simp only [dNe, dEq, dOr, dEqS, scV, dEqP, toPy_pairs, toPy_nil, shaped_pairs, h2, and_self, if_true]
  cases ps <;> simp [PyData.eqv, PyData.eqvAll, dNot]
theorem gSum_i (ns : List Int) : gSum [.lst (ns.map D.int)] = some (.int ns.sum) := by
  show (intsD (ns.map D.int)).map _ = _
  rw [intsD_map]
  rfl
theorem gSortP_p (ps : List (Int × Int)) : gSortP [.lst (ps.map pD)] = some (.lst ((sortP ps).map pD)) := by
  unfold gSortP
  simp only [pairsD_map, Option.map]
theorem forL_stop {gs : D → Ev → Option Ev} {cb : MS} {J : Nat → Ev → Prop} {Q : OS → Prop} : ∀ {xs : List D} {m i : Nat} {ev : Ev} {y : D}, xs[m]? = some y → J i ev → (∀ (k : Nat) (x : D) (ev : Ev), k < m → xs[k]? = some x → J (i + k) ev → ∃ ev1 ev2, gs x ev = some ev1 ∧ (cb ev1 = some (.nx ev2) ∨ cb ev1 = some (.ct ev2)) ∧ J (i + k + 1) ev2) →
    (∀ ev, J (i + m) ev → ∃ ev1 o, gs y ev = some ev1 ∧ cb ev1 = some o ∧ (∀ rest, turnL (some o) rest = some o) ∧ Q o) → ∃ o, forL gs cb xs ev = some o ∧ Q o
  | [], m, i, ev, y, h, _, _, _ => by simp at h
  | x :: xs, 0, i, ev, y, h, j, _, q => by
    obtain ⟨ev1, o, h1, h2, h3, h4⟩ := q ev j
    simp only [List.getElem?_cons_zero, Option.some.injEq] at h
    subst h
    exact ⟨o, by rw [forL_cons, h1]; simp only [h2, h3], h4⟩
  | x :: xs, m + 1, i, ev, y, h, j, t, q => by
    obtain ⟨ev1, ev2, h1, h2, h3⟩ := t 0 x ev (by omega) rfl j
    obtain ⟨o, h4, h5⟩ := forL_stop (xs := xs) (m := m) (i := i + 1) (ev := ev2) (y := y) (by simpa using h) h3 (fun k z ev hk hz hj => by
      have := t (k + 1) z ev (by omega) (by simpa using hz) (by rw [show i + (k + 1) = i + 1 + k by omega]; exact hj)
      rw [show i + 1 + k + 1 = i + (k + 1) + 1 by omega]
      exact this) (fun ev hj => q ev (by rw [show i + (m + 1) = i + 1 + m by omega]; exact hj))
    exact ⟨o, by rw [forL_cons, h1]; rcases h2 with h2 | h2 <;> simp only [h2, turnL, h4], h5⟩
theorem turnL_rt {r : RV} {ev : Ev} (rest : MS) : turnL (some (.rt r ev)) rest = some (.rt r ev) := rfl
theorem turnL_er {r : Err} {ev : Ev} (rest : MS) : turnL (some (.er r ev)) rest = some (.er r ev) := rfl
theorem itemsX_p (ps : List (Int × Int)) : itemsX (.lst (ps.map pD)) = some (ps.map pD) := rfl
end FL
set_option Elab.async false
set_option linter.all false
set_option maxRecDepth 100000
namespace FL
open PySem
open PySem.Spec
open L2
theorem ars_d (ev : Ev) (ds : List D) : arsSV ev (ds.map AR.d) = some (ds.map SV.d) := by
  induction ds with
  | nil => rfl
  | cons d ds ih => simp [arsSV, arSV, ih]
theorem slots_d (ds : List D) : slotsOf (ds.map AR.d) = [] := by
  induction ds with
  | nil => rfl
  | cons d ds ih => simpa [slotsOf] using ih
theorem putB_d (ev : Ev) (ds : List D) : putB (ds.map AR.d) (ds.map SV.d) ev = ev := by
  induction ds with
  | nil => rfl
  | cons d ds ih => simpa [putB] using ih
theorem call_d {m : FM} {ev ev' : Ev} {ca : M (List AR)} {X : D} (ds : List D) (h : ca ev = some (.ok (ds.map AR.d) ev')) (hm : m (ds.map SV.d) = some (.ret (.d X) (ds.map SV.d))) : mCall m [] ca ev = some (.ok X ev') := by
  simp only [mCall, M.bind, h, callM, ars_d, slots_d, List.map_nil, List.append_nil, hm, rvD, Option.map, putB_d, List.nodup_nil, if_true]
theorem rCons_ok {ca : M D} {cr : M (List AR)} {ev ev1 ev2 : Ev} {d : D} {l : List AR} (h1 : ca ev = some (.ok d ev1)) (h2 : cr ev1 = some (.ok l ev2)) : rCons ca cr ev = some (.ok (.d d :: l) ev2) := by
  simp only [rCons, M.bind, h1, h2, M.ret]
theorem rVar_ok {i : Nat} {cr : M (List AR)} {ev ev1 ev2 : Ev} {a : AR} {l : List AR} (h1 : mArV i ev = some (.ok a ev1)) (h2 : cr ev1 = some (.ok l ev2)) : rVar i cr ev = some (.ok (a :: l) ev2) := by
  simp only [rVar, M.bind, h1, h2, M.ret]
end FL
set_option Elab.async false
set_option linter.all false
set_option maxRecDepth 100000
set_option maxHeartbeats 4000000
namespace Q
open PySem
open PySem.Spec
open L2
open FL
def top (i : Nat) : Stmt := PySem.Challenge.pw_spanloops_k91_days_drawn.main.body.getD i (.Pass ⟨0, 0, 0, 0⟩)
def kt : List (TN × TN × Bool) := [((.b "NoneType"), (.b "int"), false), ((.b "NoneType"), (.b "bool"), false), ((.b "NoneType"), (.b "str"), false), ((.b "NoneType"), (.b "tuple"), false), ((.b "NoneType"), (.b "list"), false), ((.b "bool"), (.b "int"), true), ((.b "bool"), (.b "bool"), true), ((.b "bool"), (.b "str"), false), ((.b "bool"), (.b "tuple"), false), ((.b "bool"), (.b "list"), false), ((.b "int"), (.b "int"), true), ((.b "int"), (.b "bool"), false), ((.b "int"), (.b "str"), false), ((.b "int"), (.b "tuple"), false), ((.b "int"), (.b "list"), false), ((.b "str"), (.b "int"), false), ((.b "str"), (.b "bool"), false), ((.b "str"), (.b "str"), true), ((.b "str"), (.b "tuple"), false), ((.b "str"), (.b "list"), false), ((.b "tuple"), (.b "int"), false), ((.b "tuple"), (.b "bool"), false), ((.b "tuple"), (.b "str"), false), ((.b "tuple"), (.b "tuple"), true), ((.b "tuple"), (.b "list"), false), ((.b "list"), (.b "int"), false), ((.b "list"), (.b "bool"), false), ((.b "list"), (.b "str"), false), ((.b "list"), (.b "tuple"), false), ((.b "list"), (.b "list"), true)]
def ins : List String := []
def nf : List TN := []
def xt : List (String × String × Bool) := [("BadColumns", "BadColumns", true), ("BadDay", "BadColumns", false), ("BadEnds", "BadColumns", false), ("BadItem", "BadColumns", false), ("BadMoment", "BadColumns", false), ("TooFar", "BadColumns", false), ("BadColumns", "BadItem", false), ("BadDay", "BadItem", false), ("BadEnds", "BadItem", false), ("BadItem", "BadItem", true), ("BadMoment", "BadItem", false), ("TooFar", "BadItem", false), ("BadColumns", "TooFar", false), ("BadDay", "TooFar", false), ("BadEnds", "TooFar", false), ("BadItem", "TooFar", false), ("BadMoment", "TooFar", false), ("TooFar", "TooFar", true)]
theorem xt_flat : (xt.all fun r => !r.2.2 || r.1 == r.2.1) = true := by decide +kernel
abbrev s_BadMoment___init : Stmt := (inB (top 2) 0)
def sc_BadMoment___init : Scope := mkSc [("self", 0), ("moment", 0), ("ValueError", 3)]
def N_BadMoment___init : List Str := [(Str.ofString "self"), (Str.ofString "moment")]
def P_BadMoment___init : List Str := [(Str.ofString "self"), (Str.ofString "moment")]
def df_BadMoment___init : He.DefD := ⟨((Str.ofString "BadMoment"), some (Str.ofString "__init__")), (Str.ofString "__init__"), (Str.ofString "BadMoment.__init__"), defArgs s_BadMoment___init, defBody s_BadMoment___init, sc_BadMoment___init, [], []⟩
theorem nd_BadMoment___init : N_BadMoment___init.Nodup := by decide +kernel
theorem so_BadMoment___init : FnScope N_BadMoment___init P_BadMoment___init sc_BadMoment___init := ⟨rfl, rfl, rfl, nd_BadMoment___init, rfl, by decide +kernel, by decide +kernel⟩
theorem v_BadMoment___init_0_self : Vis sc_BadMoment___init (Str.ofString "self") := Or.inl (by decide +kernel)
theorem v_BadMoment___init_0_moment : Vis sc_BadMoment___init (Str.ofString "moment") := Or.inl (by decide +kernel)
theorem g_BadMoment___init_0_ValueError : sc_BadMoment___init.names.lookup (Str.ofString "ValueError") = some .globalImplicit := by decide +kernel
abbrev s_BadEnds___init : Stmt := (inB (top 3) 0)
def sc_BadEnds___init : Scope := mkSc [("self", 0), ("ends", 0), ("ValueError", 3)]
def N_BadEnds___init : List Str := [(Str.ofString "self"), (Str.ofString "ends")]
def P_BadEnds___init : List Str := [(Str.ofString "self"), (Str.ofString "ends")]
def df_BadEnds___init : He.DefD := ⟨((Str.ofString "BadEnds"), some (Str.ofString "__init__")), (Str.ofString "__init__"), (Str.ofString "BadEnds.__init__"), defArgs s_BadEnds___init, defBody s_BadEnds___init, sc_BadEnds___init, [], []⟩
theorem nd_BadEnds___init : N_BadEnds___init.Nodup := by decide +kernel
theorem so_BadEnds___init : FnScope N_BadEnds___init P_BadEnds___init sc_BadEnds___init := ⟨rfl, rfl, rfl, nd_BadEnds___init, rfl, by decide +kernel, by decide +kernel⟩
theorem v_BadEnds___init_0_self : Vis sc_BadEnds___init (Str.ofString "self") := Or.inl (by decide +kernel)
theorem v_BadEnds___init_0_ends : Vis sc_BadEnds___init (Str.ofString "ends") := Or.inl (by decide +kernel)
theorem g_BadEnds___init_0_ValueError : sc_BadEnds___init.names.lookup (Str.ofString "ValueError") = some .globalImplicit := by decide +kernel
abbrev s_BadItem___init : Stmt := (inB (top 4) 0)
def sc_BadItem___init : Scope := mkSc [("self", 0), ("index", 0), ("ValueError", 3)]
def N_BadItem___init : List Str := [(Str.ofString "self"), (Str.ofString "index")]
def P_BadItem___init : List Str := [(Str.ofString "self"), (Str.ofString "index")]
def df_BadItem___init : He.DefD := ⟨((Str.ofString "BadItem"), some (Str.ofString "__init__")), (Str.ofString "__init__"), (Str.ofString "BadItem.__init__"), defArgs s_BadItem___init, defBody s_BadItem___init, sc_BadItem___init, [], []⟩
theorem nd_BadItem___init : N_BadItem___init.Nodup := by decide +kernel
theorem so_BadItem___init : FnScope N_BadItem___init P_BadItem___init sc_BadItem___init := ⟨rfl, rfl, rfl, nd_BadItem___init, rfl, by decide +kernel, by decide +kernel⟩
theorem v_BadItem___init_0_self : Vis sc_BadItem___init (Str.ofString "self") := Or.inl (by decide +kernel)
theorem v_BadItem___init_0_index : Vis sc_BadItem___init (Str.ofString "index") := Or.inl (by decide +kernel)
theorem g_BadItem___init_0_ValueError : sc_BadItem___init.names.lookup (Str.ofString "ValueError") = some .globalImplicit := by decide +kernel
abbrev s_BadDay___init : Stmt := (inB (top 5) 0)
def sc_BadDay___init : Scope := mkSc [("self", 0), ("day", 0), ("ValueError", 3)]
def N_BadDay___init : List Str := [(Str.ofString "self"), (Str.ofString "day")]
def P_BadDay___init : List Str := [(Str.ofString "self"), (Str.ofString "day")]
def df_BadDay___init : He.DefD := ⟨((Str.ofString "BadDay"), some (Str.ofString "__init__")), (Str.ofString "__init__"), (Str.ofString "BadDay.__init__"), defArgs s_BadDay___init, defBody s_BadDay___init, sc_BadDay___init, [], []⟩
theorem nd_BadDay___init : N_BadDay___init.Nodup := by decide +kernel
theorem so_BadDay___init : FnScope N_BadDay___init P_BadDay___init sc_BadDay___init := ⟨rfl, rfl, rfl, nd_BadDay___init, rfl, by decide +kernel, by decide +kernel⟩
theorem v_BadDay___init_0_self : Vis sc_BadDay___init (Str.ofString "self") := Or.inl (by decide +kernel)
theorem v_BadDay___init_0_day : Vis sc_BadDay___init (Str.ofString "day") := Or.inl (by decide +kernel)
theorem g_BadDay___init_0_ValueError : sc_BadDay___init.names.lookup (Str.ofString "ValueError") = some .globalImplicit := by decide +kernel
abbrev s_BadColumns___init : Stmt := (inB (top 6) 0)
def sc_BadColumns___init : Scope := mkSc [("self", 0), ("columns", 0), ("ValueError", 3)]
def N_BadColumns___init : List Str := [(Str.ofString "self"), (Str.ofString "columns")]
def P_BadColumns___init : List Str := [(Str.ofString "self"), (Str.ofString "columns")]
def df_BadColumns___init : He.DefD := ⟨((Str.ofString "BadColumns"), some (Str.ofString "__init__")), (Str.ofString "__init__"), (Str.ofString "BadColumns.__init__"), defArgs s_BadColumns___init, defBody s_BadColumns___init, sc_BadColumns___init, [], []⟩
theorem nd_BadColumns___init : N_BadColumns___init.Nodup := by decide +kernel
theorem so_BadColumns___init : FnScope N_BadColumns___init P_BadColumns___init sc_BadColumns___init := ⟨rfl, rfl, rfl, nd_BadColumns___init, rfl, by decide +kernel, by decide +kernel⟩
theorem v_BadColumns___init_0_self : Vis sc_BadColumns___init (Str.ofString "self") := Or.inl (by decide +kernel)
theorem v_BadColumns___init_0_columns : Vis sc_BadColumns___init (Str.ofString "columns") := Or.inl (by decide +kernel)
theorem g_BadColumns___init_0_ValueError : sc_BadColumns___init.names.lookup (Str.ofString "ValueError") = some .globalImplicit := by decide +kernel
abbrev s_TooFar___init : Stmt := (inB (top 7) 0)
def sc_TooFar___init : Scope := mkSc [("self", 0), ("edge", 0), ("OverflowError", 3)]
def N_TooFar___init : List Str := [(Str.ofString "self"), (Str.ofString "edge")]
def P_TooFar___init : List Str := [(Str.ofString "self"), (Str.ofString "edge")]
def df_TooFar___init : He.DefD := ⟨((Str.ofString "TooFar"), some (Str.ofString "__init__")), (Str.ofString "__init__"), (Str.ofString "TooFar.__init__"), defArgs s_TooFar___init, defBody s_TooFar___init, sc_TooFar___init, [], []⟩
theorem nd_TooFar___init : N_TooFar___init.Nodup := by decide +kernel
theorem so_TooFar___init : FnScope N_TooFar___init P_TooFar___init sc_TooFar___init := ⟨rfl, rfl, rfl, nd_TooFar___init, rfl, by decide +kernel, by decide +kernel⟩
theorem v_TooFar___init_0_self : Vis sc_TooFar___init (Str.ofString "self") := Or.inl (by decide +kernel)
theorem v_TooFar___init_0_edge : Vis sc_TooFar___init (Str.ofString "edge") := Or.inl (by decide +kernel)
theorem g_TooFar___init_0_OverflowError : sc_TooFar___init.names.lookup (Str.ofString "OverflowError") = some .globalImplicit := by decide +kernel
abbrev s_is_integer : Stmt := (top 14)
def sc_is_integer : Scope := mkSc [("thing", 0), ("isinstance", 3), ("int", 3), ("bool", 3)]
def N_is_integer : List Str := [(Str.ofString "thing")]
def P_is_integer : List Str := [(Str.ofString "thing")]
def df_is_integer : He.DefD := ⟨((Str.ofString "is_integer"), none), (Str.ofString "is_integer"), (Str.ofString "is_integer"), defArgs s_is_integer, defBody s_is_integer, sc_is_integer, [], []⟩
theorem nd_is_integer : N_is_integer.Nodup := by decide +kernel
theorem so_is_integer : FnScope N_is_integer P_is_integer sc_is_integer := ⟨rfl, rfl, rfl, nd_is_integer, rfl, by decide +kernel, by decide +kernel⟩
theorem g_is_integer_0_int : sc_is_integer.names.lookup (Str.ofString "int") = some .globalImplicit := by decide +kernel
theorem n_is_integer_thing : N_is_integer[0]? = some (Str.ofString "thing") := rfl
theorem v_is_integer_0_thing : Vis sc_is_integer (Str.ofString "thing") := Or.inl (by decide +kernel)
theorem g_is_integer_0_isinstance : sc_is_integer.names.lookup (Str.ofString "isinstance") = some .globalImplicit := by decide +kernel
theorem g_is_integer_0_bool : sc_is_integer.names.lookup (Str.ofString "bool") = some .globalImplicit := by decide +kernel
def b_is_integer : MS := (sRet (mAnd (mB (gIsi kt ins) (mCons (mVar 0) (mCons (M.ret (.ty "int")) mNil))) (mNot (mB (gIsi kt ins) (mCons (mVar 0) (mCons (M.ret (.ty "bool")) mNil))))))
def m_is_integer : FM := mkF 1 1 b_is_integer
abbrev s_is_near : Stmt := (top 15)
def sc_is_near : Scope := mkSc [("number", 0), ("MOST", 3)]
def N_is_near : List Str := [(Str.ofString "number")]
def P_is_near : List Str := [(Str.ofString "number")]
def df_is_near : He.DefD := ⟨((Str.ofString "is_near"), none), (Str.ofString "is_near"), (Str.ofString "is_near"), defArgs s_is_near, defBody s_is_near, sc_is_near, [], []⟩
theorem nd_is_near : N_is_near.Nodup := by decide +kernel
theorem so_is_near : FnScope N_is_near P_is_near sc_is_near := ⟨rfl, rfl, rfl, nd_is_near, rfl, by decide +kernel, by decide +kernel⟩
theorem g_is_near_0_MOST : sc_is_near.names.lookup (Str.ofString "MOST") = some .globalImplicit := by decide +kernel
theorem n_is_near_number : N_is_near[0]? = some (Str.ofString "number") := rfl
theorem v_is_near_0_number : Vis sc_is_near (Str.ofString "number") := Or.inl (by decide +kernel)
def b_is_near : MS := (sRet (mChain dLe dLe (m1 dNeg (M.ret (.int 1000000000000000000000000000000))) (mVar 0) (M.ret (.int 1000000000000000000000000000000))))
def m_is_near : FM := mkF 1 1 b_is_near
abbrev s_is_edge : Stmt := (top 16)
def sc_is_edge : Scope := mkSc [("thing", 0), ("is_integer", 3), ("FIRST", 3), ("LAST", 3), ("is_near", 3)]
def N_is_edge : List Str := [(Str.ofString "thing")]
def P_is_edge : List Str := [(Str.ofString "thing")]
def df_is_edge : He.DefD := ⟨((Str.ofString "is_edge"), none), (Str.ofString "is_edge"), (Str.ofString "is_edge"), defArgs s_is_edge, defBody s_is_edge, sc_is_edge, [], []⟩
theorem nd_is_edge : N_is_edge.Nodup := by decide +kernel
theorem so_is_edge : FnScope N_is_edge P_is_edge sc_is_edge := ⟨rfl, rfl, rfl, nd_is_edge, rfl, by decide +kernel, by decide +kernel⟩
theorem n_is_edge_thing : N_is_edge[0]? = some (Str.ofString "thing") := rfl
theorem v_is_edge_0_thing : Vis sc_is_edge (Str.ofString "thing") := Or.inl (by decide +kernel)
theorem g_is_edge_0_is_integer : sc_is_edge.names.lookup (Str.ofString "is_integer") = some .globalImplicit := by decide +kernel
theorem g_is_edge_0_LAST : sc_is_edge.names.lookup (Str.ofString "LAST") = some .globalImplicit := by decide +kernel
theorem g_is_edge_0_FIRST : sc_is_edge.names.lookup (Str.ofString "FIRST") = some .globalImplicit := by decide +kernel
theorem g_is_edge_0_is_near : sc_is_edge.names.lookup (Str.ofString "is_near") = some .globalImplicit := by decide +kernel
def b_is_edge : MS := (sRet (mAnd (mCall m_is_integer [] (rVar 0 rNil)) (mOr (m2 dIn (mVar 0) (mTup (mCons (M.ret (.int (-10000000000000000000000000000000))) (mCons (M.ret (.int 10000000000000000000000000000000)) mNil)))) (mCall m_is_near [] (rVar 0 rNil)))))
def m_is_edge : FM := mkF 1 1 b_is_edge
abbrev s_is_moment : Stmt := (top 17)
def sc_is_moment : Scope := mkSc [("thing", 0), ("is_integer", 3), ("FIRST", 3), ("LAST", 3)]
def N_is_moment : List Str := [(Str.ofString "thing")]
def P_is_moment : List Str := [(Str.ofString "thing")]
def df_is_moment : He.DefD := ⟨((Str.ofString "is_moment"), none), (Str.ofString "is_moment"), (Str.ofString "is_moment"), defArgs s_is_moment, defBody s_is_moment, sc_is_moment, [], []⟩
theorem nd_is_moment : N_is_moment.Nodup := by decide +kernel
theorem so_is_moment : FnScope N_is_moment P_is_moment sc_is_moment := ⟨rfl, rfl, rfl, nd_is_moment, rfl, by decide +kernel, by decide +kernel⟩
theorem n_is_moment_thing : N_is_moment[0]? = some (Str.ofString "thing") := rfl
theorem v_is_moment_0_thing : Vis sc_is_moment (Str.ofString "thing") := Or.inl (by decide +kernel)
theorem g_is_moment_0_is_integer : sc_is_moment.names.lookup (Str.ofString "is_integer") = some .globalImplicit := by decide +kernel
theorem g_is_moment_0_FIRST : sc_is_moment.names.lookup (Str.ofString "FIRST") = some .globalImplicit := by decide +kernel
theorem g_is_moment_0_LAST : sc_is_moment.names.lookup (Str.ofString "LAST") = some .globalImplicit := by decide +kernel
def b_is_moment : MS := (sRet (mAnd (mCall m_is_integer [] (rVar 0 rNil)) (mChain dLt dLt (M.ret (.int (-10000000000000000000000000000000))) (mVar 0) (M.ret (.int 10000000000000000000000000000000)))))
def m_is_moment : FM := mkF 1 1 b_is_moment
abbrev s_is_pair : Stmt := (top 18)
def sc_is_pair : Scope := mkSc [("thing", 0), ("isinstance", 3), ("tuple", 3), ("len", 3), ("is_edge", 3)]
def N_is_pair : List Str := [(Str.ofString "thing")]
def P_is_pair : List Str := [(Str.ofString "thing")]
def df_is_pair : He.DefD := ⟨((Str.ofString "is_pair"), none), (Str.ofString "is_pair"), (Str.ofString "is_pair"), defArgs s_is_pair, defBody s_is_pair, sc_is_pair, [], []⟩
theorem nd_is_pair : N_is_pair.Nodup := by decide +kernel
theorem so_is_pair : FnScope N_is_pair P_is_pair sc_is_pair := ⟨rfl, rfl, rfl, nd_is_pair, rfl, by decide +kernel, by decide +kernel⟩
theorem g_is_pair_0_tuple : sc_is_pair.names.lookup (Str.ofString "tuple") = some .globalImplicit := by decide +kernel
theorem n_is_pair_thing : N_is_pair[0]? = some (Str.ofString "thing") := rfl
theorem v_is_pair_0_thing : Vis sc_is_pair (Str.ofString "thing") := Or.inl (by decide +kernel)
theorem g_is_pair_0_isinstance : sc_is_pair.names.lookup (Str.ofString "isinstance") = some .globalImplicit := by decide +kernel
theorem g_is_pair_0_len : sc_is_pair.names.lookup (Str.ofString "len") = some .globalImplicit := by decide +kernel
theorem g_is_pair_0_is_edge : sc_is_pair.names.lookup (Str.ofString "is_edge") = some .globalImplicit := by decide +kernel
def b_is_pair : MS := (sRet (mAnd (mB (gIsi kt ins) (mCons (mVar 0) (mCons (M.ret (.ty "tuple")) mNil))) (mAnd (m2 dEq (mBN gLen 0) (M.ret (.int 2))) (mAnd (mCall m_is_edge [] (rCons (mIxN 0 (M.ret (.int 0))) rNil)) (mCall m_is_edge [] (rCons (mIxN 0 (M.ret (.int 1))) rNil))))))
def m_is_pair : FM := mkF 1 1 b_is_pair
abbrev s_is_stretch : Stmt := (top 19)
def sc_is_stretch : Scope := mkSc [("thing", 0), ("is_pair", 3), ("FIRST", 3), ("LAST", 3)]
def N_is_stretch : List Str := [(Str.ofString "thing")]
def P_is_stretch : List Str := [(Str.ofString "thing")]
def df_is_stretch : He.DefD := ⟨((Str.ofString "is_stretch"), none), (Str.ofString "is_stretch"), (Str.ofString "is_stretch"), defArgs s_is_stretch, defBody s_is_stretch, sc_is_stretch, [], []⟩
theorem nd_is_stretch : N_is_stretch.Nodup := by decide +kernel
theorem so_is_stretch : FnScope N_is_stretch P_is_stretch sc_is_stretch := ⟨rfl, rfl, rfl, nd_is_stretch, rfl, by decide +kernel, by decide +kernel⟩
theorem n_is_stretch_thing : N_is_stretch[0]? = some (Str.ofString "thing") := rfl
theorem v_is_stretch_0_thing : Vis sc_is_stretch (Str.ofString "thing") := Or.inl (by decide +kernel)
theorem g_is_stretch_0_is_pair : sc_is_stretch.names.lookup (Str.ofString "is_pair") = some .globalImplicit := by decide +kernel
theorem g_is_stretch_0_FIRST : sc_is_stretch.names.lookup (Str.ofString "FIRST") = some .globalImplicit := by decide +kernel
theorem g_is_stretch_0_LAST : sc_is_stretch.names.lookup (Str.ofString "LAST") = some .globalImplicit := by decide +kernel
def b_is_stretch : MS := (sRet (mAnd (mCall m_is_pair [] (rVar 0 rNil)) (mAnd (m2 dLt (M.ret (.int (-10000000000000000000000000000000))) (mIxN 0 (M.ret (.int 1)))) (mAnd (m2 dLt (mIxN 0 (M.ret (.int 0))) (M.ret (.int 10000000000000000000000000000000))) (m2 dLe (mIxN 0 (M.ret (.int 0))) (mIxN 0 (M.ret (.int 1))))))))
def m_is_stretch : FM := mkF 1 1 b_is_stretch
abbrev s_is_ends : Stmt := (top 20)
def sc_is_ends : Scope := mkSc [("thing", 0), ("isinstance", 3), ("str", 3), ("Ends", 3)]
def N_is_ends : List Str := [(Str.ofString "thing")]
def P_is_ends : List Str := [(Str.ofString "thing")]
def df_is_ends : He.DefD := ⟨((Str.ofString "is_ends"), none), (Str.ofString "is_ends"), (Str.ofString "is_ends"), defArgs s_is_ends, defBody s_is_ends, sc_is_ends, [], []⟩
theorem nd_is_ends : N_is_ends.Nodup := by decide +kernel
theorem so_is_ends : FnScope N_is_ends P_is_ends sc_is_ends := ⟨rfl, rfl, rfl, nd_is_ends, rfl, by decide +kernel, by decide +kernel⟩
theorem g_is_ends_0_str : sc_is_ends.names.lookup (Str.ofString "str") = some .globalImplicit := by decide +kernel
theorem n_is_ends_thing : N_is_ends[0]? = some (Str.ofString "thing") := rfl
theorem v_is_ends_0_thing : Vis sc_is_ends (Str.ofString "thing") := Or.inl (by decide +kernel)
theorem g_is_ends_0_isinstance : sc_is_ends.names.lookup (Str.ofString "isinstance") = some .globalImplicit := by decide +kernel
theorem g_is_ends_0_Ends : sc_is_ends.names.lookup (Str.ofString "Ends") = some .globalImplicit := by decide +kernel
def b_is_ends : MS := (sRet (mAnd (mB (gIsi kt ins) (mCons (mVar 0) (mCons (M.ret (.ty "str")) mNil))) (m2 dIn (mVar 0) (mTup (mCons (mCls "Ends" (.str (Str.ofString "half")) (M.ret (.cls "Ends"))) (mCons (mCls "Ends" (.str (Str.ofString "shut")) (M.ret (.cls "Ends"))) mNil))))))
def m_is_ends : FM := mkF 1 1 b_is_ends
abbrev s_check_ends : Stmt := (top 21)
def sc_check_ends : Scope := mkSc [("ends", 0), ("is_ends", 3), ("BadEnds", 3)]
def N_check_ends : List Str := [(Str.ofString "ends")]
def P_check_ends : List Str := [(Str.ofString "ends")]
def df_check_ends : He.DefD := ⟨((Str.ofString "check_ends"), none), (Str.ofString "check_ends"), (Str.ofString "check_ends"), defArgs s_check_ends, defBody s_check_ends, sc_check_ends, [], []⟩
theorem nd_check_ends : N_check_ends.Nodup := by decide +kernel
theorem so_check_ends : FnScope N_check_ends P_check_ends sc_check_ends := ⟨rfl, rfl, rfl, nd_check_ends, rfl, by decide +kernel, by decide +kernel⟩
theorem n_check_ends_ends : N_check_ends[0]? = some (Str.ofString "ends") := rfl
theorem v_check_ends_0_ends : Vis sc_check_ends (Str.ofString "ends") := Or.inl (by decide +kernel)
theorem g_check_ends_0_is_ends : sc_check_ends.names.lookup (Str.ofString "is_ends") = some .globalImplicit := by decide +kernel
theorem g_check_ends_0_BadEnds : sc_check_ends.names.lookup (Str.ofString "BadEnds") = some .globalImplicit := by decide +kernel
def b_check_ends : MS := (sIf (mTNot (mTru (mCall m_is_ends [] (rVar 0 rNil)))) (sRaise "BadEnds" "ends" (mVar 0)) (fun ev => some (.nx ev)))
def m_check_ends : FM := mkF 1 1 b_check_ends
abbrev s_check_spans : Stmt := (top 22)
def sc_check_spans : Scope := mkSc [("spans", 0), ("index", 0), ("span", 0), ("enumerate", 3), ("is_stretch", 3), ("BadItem", 3)]
def N_check_spans : List Str := [(Str.ofString "spans"), (Str.ofString "index"), (Str.ofString "span")]
def P_check_spans : List Str := [(Str.ofString "spans")]
def df_check_spans : He.DefD := ⟨((Str.ofString "check_spans"), none), (Str.ofString "check_spans"), (Str.ofString "check_spans"), defArgs s_check_spans, defBody s_check_spans, sc_check_spans, [], []⟩
theorem nd_check_spans : N_check_spans.Nodup := by decide +kernel
theorem so_check_spans : FnScope N_check_spans P_check_spans sc_check_spans := ⟨rfl, rfl, rfl, nd_check_spans, rfl, by decide +kernel, by decide +kernel⟩
theorem n_check_spans_spans : N_check_spans[0]? = some (Str.ofString "spans") := rfl
theorem v_check_spans_0_spans : Vis sc_check_spans (Str.ofString "spans") := Or.inl (by decide +kernel)
theorem g_check_spans_0_enumerate : sc_check_spans.names.lookup (Str.ofString "enumerate") = some .globalImplicit := by decide +kernel
theorem n_check_spans_span : N_check_spans[2]? = some (Str.ofString "span") := rfl
theorem l_check_spans_0_span : Loc sc_check_spans (Str.ofString "span") := Or.inl (by decide +kernel)
theorem n_check_spans_index : N_check_spans[1]? = some (Str.ofString "index") := rfl
theorem l_check_spans_0_index : Loc sc_check_spans (Str.ofString "index") := Or.inl (by decide +kernel)
theorem v_check_spans_0_span : Vis sc_check_spans (Str.ofString "span") := Or.inl (by decide +kernel)
theorem g_check_spans_0_is_stretch : sc_check_spans.names.lookup (Str.ofString "is_stretch") = some .globalImplicit := by decide +kernel
theorem v_check_spans_0_index : Vis sc_check_spans (Str.ofString "index") := Or.inl (by decide +kernel)
theorem g_check_spans_0_BadItem : sc_check_spans.names.lookup (Str.ofString "BadItem") = some .globalImplicit := by decide +kernel
def b_check_spans : MS := (sFor (gsTup 2 (gsCons (setD 1) (gsCons (setD 2) gsNil))) (mEnum (mVar 0)) (sIf (mTNot (mTru (mCall m_is_stretch [] (rVar 2 rNil)))) (sRaise "BadItem" "index" (mVar 1)) (fun ev => some (.nx ev))))
def m_check_spans : FM := mkF 1 3 b_check_spans
abbrev s_is_empty : Stmt := (top 23)
def sc_is_empty : Scope := mkSc [("pair", 0), ("ends", 0), ("check_ends", 3), ("Ends", 3)]
def N_is_empty : List Str := [(Str.ofString "pair"), (Str.ofString "ends")]
def P_is_empty : List Str := [(Str.ofString "pair"), (Str.ofString "ends")]
def df_is_empty : He.DefD := ⟨((Str.ofString "is_empty"), none), (Str.ofString "is_empty"), (Str.ofString "is_empty"), defArgs s_is_empty, defBody s_is_empty, sc_is_empty, [(.str (Str.ofString "half"))], []⟩
theorem nd_is_empty : N_is_empty.Nodup := by decide +kernel
theorem so_is_empty : FnScope N_is_empty P_is_empty sc_is_empty := ⟨rfl, rfl, rfl, nd_is_empty, rfl, by decide +kernel, by decide +kernel⟩
theorem n_is_empty_ends : N_is_empty[1]? = some (Str.ofString "ends") := rfl
theorem v_is_empty_0_ends : Vis sc_is_empty (Str.ofString "ends") := Or.inl (by decide +kernel)
theorem g_is_empty_0_check_ends : sc_is_empty.names.lookup (Str.ofString "check_ends") = some .globalImplicit := by decide +kernel
theorem n_is_empty_pair : N_is_empty[0]? = some (Str.ofString "pair") := rfl
theorem v_is_empty_0_pair : Vis sc_is_empty (Str.ofString "pair") := Or.inl (by decide +kernel)
theorem g_is_empty_0_Ends : sc_is_empty.names.lookup (Str.ofString "Ends") = some .globalImplicit := by decide +kernel
def b_is_empty : MS := (sSeq (sExpr (mCall m_check_ends [] (rVar 1 rNil))) (sRet (mOr (m2 dGt (mIxN 0 (M.ret (.int 0))) (mIxN 0 (M.ret (.int 1)))) (mAnd (m2 dEq (mVar 1) (mCls "Ends" (.str (Str.ofString "half")) (M.ret (.cls "Ends")))) (m2 dEq (mIxN 0 (M.ret (.int 0))) (mIxN 0 (M.ret (.int 1))))))))
def m_is_empty : FM := mkF 2 2 b_is_empty
abbrev s_union : Stmt := (top 24)
def sc_union : Scope := mkScM [("spans", 0), ("ends", 1), ("found", 0), ("begin", 0), ("end", 0), ("check_spans", 3), ("check_ends", 3), ("sorted", 3), ("max", 3)] [("fast", "spans"), ("fast", "ends"), ("fast", "found"), ("fast", "span"), ("fast", "begin"), ("fast", "end")]
def sc_union_1 : Scope := mkSc [(".0", 0), ("span", 0), ("is_empty", 3), ("ends", 1)]
def sc_union_1r : Scope := mkSc [(".0", 0), ("span", 0), ("is_empty", 3), ("ends", 2)]
def N_union : List Str := [(Str.ofString "spans"), (Str.ofString "ends"), (Str.ofString "found"), (Str.ofString "begin"), (Str.ofString "end"), (Str.ofString "span")]
def P_union : List Str := [(Str.ofString "spans"), (Str.ofString "ends")]
def df_union : He.DefD := ⟨((Str.ofString "union"), none), (Str.ofString "union"), (Str.ofString "union"), defArgs s_union, defBody s_union, sc_union, [(.str (Str.ofString "half"))], []⟩
theorem nd_union : N_union.Nodup := by decide +kernel
theorem so_union : FnScope N_union P_union sc_union := ⟨rfl, rfl, rfl, nd_union, rfl, by decide +kernel, by decide +kernel⟩
theorem n_union_spans : N_union[0]? = some (Str.ofString "spans") := rfl
theorem v_union_0_spans : Vis sc_union (Str.ofString "spans") := Or.inl (by decide +kernel)
theorem g_union_0_check_spans : sc_union.names.lookup (Str.ofString "check_spans") = some .globalImplicit := by decide +kernel
theorem n_union_ends : N_union[1]? = some (Str.ofString "ends") := rfl
theorem v_union_0_ends : Vis sc_union (Str.ofString "ends") := Or.inr (Or.inl (by decide +kernel))
theorem g_union_0_check_ends : sc_union.names.lookup (Str.ofString "check_ends") = some .globalImplicit := by decide +kernel
theorem n_union_found : N_union[2]? = some (Str.ofString "found") := rfl
theorem l_union_0_found : Loc sc_union (Str.ofString "found") := Or.inl (by decide +kernel)
theorem n_union_span : N_union[5]? = some (Str.ofString "span") := rfl
theorem l_union_1_span : Loc sc_union_1 (Str.ofString "span") := Or.inl (by decide +kernel)
theorem il_union_1_span : sc_union_1.names.lookup (Str.ofString "span") = some .local := by decide +kernel
theorem v_union_1_ends : Vis sc_union_1 (Str.ofString "ends") := Or.inr (Or.inl (by decide +kernel))
theorem v_union_1_span : Vis sc_union_1 (Str.ofString "span") := Or.inl (by decide +kernel)
theorem g_union_1_is_empty : sc_union_1.names.lookup (Str.ofString "is_empty") = some .globalImplicit := by decide +kernel
theorem g_union_0_sorted : sc_union.names.lookup (Str.ofString "sorted") = some .globalImplicit := by decide +kernel
theorem n_union_end : N_union[4]? = some (Str.ofString "end") := rfl
theorem l_union_0_end : Loc sc_union (Str.ofString "end") := Or.inl (by decide +kernel)
theorem n_union_begin : N_union[3]? = some (Str.ofString "begin") := rfl
theorem l_union_0_begin : Loc sc_union (Str.ofString "begin") := Or.inl (by decide +kernel)
theorem v_union_0_found : Vis sc_union (Str.ofString "found") := Or.inl (by decide +kernel)
theorem v_union_0_begin : Vis sc_union (Str.ofString "begin") := Or.inl (by decide +kernel)
theorem v_union_0_end : Vis sc_union (Str.ofString "end") := Or.inl (by decide +kernel)
theorem g_union_0_max : sc_union.names.lookup (Str.ofString "max") = some .globalImplicit := by decide +kernel
def b_union_1 : MS := (sExpr (mCall m_check_spans [] (rVar 0 rNil)))
def b_union_2 : MS := (sExpr (mCall m_check_ends [] (rVar 1 rNil)))
def b_union_3 : MS := (sSetF 2 (mLst mNil))
def b_union_4 : MS := (sFor (gsTup 2 (gsCons (setD 3) (gsCons (setD 4) gsNil))) (mItemsX (mB gSortP (mCons (mFz (mComp [5] (setD 5) (mTNot (mTru ((rVar 5 (rVar 1 rNil)).bind fun ars => callS (fun r => some (rvD r)) m_is_empty [.inl 0, .inl 1] (2 + 0) ars))) (mVar 5) (mItemsX (mVar 0)))) mNil))) (sIf (mTAnd (mTruN 2) (mT (m2 dLe (mVar 3) (m2 dIx (mIxN 2 (m1 dNeg (M.ret (.int 1)))) (M.ret (.int 1)))))) (sSetAt 2 (mTup (mCons (m2 dIx (mIxN 2 (m1 dNeg (M.ret (.int 1)))) (M.ret (.int 0))) (mCons (mB gMax2 (mCons (m2 dIx (mIxN 2 (m1 dNeg (M.ret (.int 1)))) (M.ret (.int 1))) (mCons (mVar 4) mNil))) mNil))) (m1 dNeg (M.ret (.int 1)))) (sApp 2 (mTup (mCons (mVar 3) (mCons (mVar 4) mNil))))))
def b_union_5 : MS := (sRetV 2)
def b_union : MS := (sSeq b_union_1 (sSeq b_union_2 (sSeq b_union_3 (sSeq b_union_4 b_union_5))))
def m_union : FM := mkF 2 6 b_union
abbrev s_checked_edge : Stmt := (top 28)
def sc_checked_edge : Scope := mkSc [("edge", 0), ("is_near", 3), ("TooFar", 3)]
def N_checked_edge : List Str := [(Str.ofString "edge")]
def P_checked_edge : List Str := [(Str.ofString "edge")]
def df_checked_edge : He.DefD := ⟨((Str.ofString "checked_edge"), none), (Str.ofString "checked_edge"), (Str.ofString "checked_edge"), defArgs s_checked_edge, defBody s_checked_edge, sc_checked_edge, [], []⟩
theorem nd_checked_edge : N_checked_edge.Nodup := by decide +kernel
theorem so_checked_edge : FnScope N_checked_edge P_checked_edge sc_checked_edge := ⟨rfl, rfl, rfl, nd_checked_edge, rfl, by decide +kernel, by decide +kernel⟩
theorem n_checked_edge_edge : N_checked_edge[0]? = some (Str.ofString "edge") := rfl
theorem v_checked_edge_0_edge : Vis sc_checked_edge (Str.ofString "edge") := Or.inl (by decide +kernel)
theorem g_checked_edge_0_is_near : sc_checked_edge.names.lookup (Str.ofString "is_near") = some .globalImplicit := by decide +kernel
theorem g_checked_edge_0_TooFar : sc_checked_edge.names.lookup (Str.ofString "TooFar") = some .globalImplicit := by decide +kernel
def b_checked_edge : MS := (sSeq (sIf (mTNot (mTru (mCall m_is_near [] (rVar 0 rNil)))) (sRaise "TooFar" "edge" (mVar 0)) (fun ev => some (.nx ev))) (sRetV 0))
def m_checked_edge : FM := mkF 1 1 b_checked_edge
abbrev s_held_between : Stmt := (top 29)
def sc_held_between : Scope := mkScM [("spans", 0), ("begin", 1), ("end", 1), ("sum", 3)] [("fast", "spans"), ("fast", "begin"), ("fast", "end"), ("fast", "left"), ("fast", "right")]
def sc_held_between_1 : Scope := mkSc [(".0", 0), ("left", 0), ("right", 0), ("max", 3), ("min", 3), ("begin", 1), ("end", 1)]
def sc_held_between_1r : Scope := mkSc [(".0", 0), ("left", 0), ("right", 0), ("max", 3), ("min", 3), ("begin", 2), ("end", 2)]
def N_held_between : List Str := [(Str.ofString "spans"), (Str.ofString "begin"), (Str.ofString "end"), (Str.ofString "left"), (Str.ofString "right")]
def P_held_between : List Str := [(Str.ofString "spans"), (Str.ofString "begin"), (Str.ofString "end")]
def df_held_between : He.DefD := ⟨((Str.ofString "held_between"), none), (Str.ofString "held_between"), (Str.ofString "held_between"), defArgs s_held_between, defBody s_held_between, sc_held_between, [], []⟩
theorem nd_held_between : N_held_between.Nodup := by decide +kernel
theorem so_held_between : FnScope N_held_between P_held_between sc_held_between := ⟨rfl, rfl, rfl, nd_held_between, rfl, by decide +kernel, by decide +kernel⟩
theorem n_held_between_spans : N_held_between[0]? = some (Str.ofString "spans") := rfl
theorem v_held_between_0_spans : Vis sc_held_between (Str.ofString "spans") := Or.inl (by decide +kernel)
theorem n_held_between_right : N_held_between[4]? = some (Str.ofString "right") := rfl
theorem l_held_between_1_right : Loc sc_held_between_1 (Str.ofString "right") := Or.inl (by decide +kernel)
theorem il_held_between_1_right : sc_held_between_1.names.lookup (Str.ofString "right") = some .local := by decide +kernel
theorem n_held_between_left : N_held_between[3]? = some (Str.ofString "left") := rfl
theorem l_held_between_1_left : Loc sc_held_between_1 (Str.ofString "left") := Or.inl (by decide +kernel)
theorem il_held_between_1_left : sc_held_between_1.names.lookup (Str.ofString "left") = some .local := by decide +kernel
theorem v_held_between_1_right : Vis sc_held_between_1 (Str.ofString "right") := Or.inl (by decide +kernel)
theorem n_held_between_end : N_held_between[2]? = some (Str.ofString "end") := rfl
theorem v_held_between_1_end : Vis sc_held_between_1 (Str.ofString "end") := Or.inr (Or.inl (by decide +kernel))
theorem g_held_between_1_min : sc_held_between_1.names.lookup (Str.ofString "min") = some .globalImplicit := by decide +kernel
theorem v_held_between_1_left : Vis sc_held_between_1 (Str.ofString "left") := Or.inl (by decide +kernel)
theorem n_held_between_begin : N_held_between[1]? = some (Str.ofString "begin") := rfl
theorem v_held_between_1_begin : Vis sc_held_between_1 (Str.ofString "begin") := Or.inr (Or.inl (by decide +kernel))
theorem g_held_between_1_max : sc_held_between_1.names.lookup (Str.ofString "max") = some .globalImplicit := by decide +kernel
theorem g_held_between_0_sum : sc_held_between.names.lookup (Str.ofString "sum") = some .globalImplicit := by decide +kernel
def b_held_between : MS := (sRet (mB gSum (mCons (mFz (mComp [3, 4] (gsTup 2 (gsCons (setD 3) (gsCons (setD 4) gsNil))) (M.ret true) (mB gMax2 (mCons (M.ret (.int 0)) (mCons (m2 dSub (mB gMin2 (mCons (mVar 2) (mCons (mVar 4) mNil))) (mB gMax2 (mCons (mVar 1) (mCons (mVar 3) mNil)))) mNil))) (mItemsX (mVar 0)))) mNil)))
def m_held_between : FM := mkF 3 5 b_held_between
abbrev s_Days___init : Stmt := (inB (top 30) 1)
def sc_Days___init : Scope := mkSc [("self", 0), ("length", 0), ("offset", 0), ("is_integer", 3), ("LONGEST", 3), ("BadDay", 3)]
def N_Days___init : List Str := [(Str.ofString "self"), (Str.ofString "length"), (Str.ofString "offset")]
def P_Days___init : List Str := [(Str.ofString "self"), (Str.ofString "length"), (Str.ofString "offset")]
def df_Days___init : He.DefD := ⟨((Str.ofString "Days"), some (Str.ofString "__init__")), (Str.ofString "__init__"), (Str.ofString "Days.__init__"), defArgs s_Days___init, defBody s_Days___init, sc_Days___init, [(.int 1440)], [((Str.ofString "offset"), (.int 0))]⟩
theorem nd_Days___init : N_Days___init.Nodup := by decide +kernel
theorem so_Days___init : FnScope N_Days___init P_Days___init sc_Days___init := ⟨rfl, rfl, rfl, nd_Days___init, rfl, by decide +kernel, by decide +kernel⟩
theorem n_Days___init_length : N_Days___init[1]? = some (Str.ofString "length") := rfl
theorem v_Days___init_0_length : Vis sc_Days___init (Str.ofString "length") := Or.inl (by decide +kernel)
theorem g_Days___init_0_is_integer : sc_Days___init.names.lookup (Str.ofString "is_integer") = some .globalImplicit := by decide +kernel
theorem g_Days___init_0_LONGEST : sc_Days___init.names.lookup (Str.ofString "LONGEST") = some .globalImplicit := by decide +kernel
theorem g_Days___init_0_BadDay : sc_Days___init.names.lookup (Str.ofString "BadDay") = some .globalImplicit := by decide +kernel
theorem n_Days___init_offset : N_Days___init[2]? = some (Str.ofString "offset") := rfl
theorem v_Days___init_0_offset : Vis sc_Days___init (Str.ofString "offset") := Or.inl (by decide +kernel)
theorem n_Days___init_self : N_Days___init[0]? = some (Str.ofString "self") := rfl
theorem v_Days___init_0_self : Vis sc_Days___init (Str.ofString "self") := Or.inl (by decide +kernel)
def b_Days___init_1 : MS := (sIf (mTOr (mTNot (mTru (mCall m_is_integer [] (rVar 1 rNil)))) (mTNot (mT (mChain dLe dLe (M.ret (.int 1)) (mVar 1) (M.ret (.int 1000000)))))) (sRaise "BadDay" "day" (mVar 1)) (fun ev => some (.nx ev)))
def b_Days___init_2 : MS := (sIf (mTOr (mTNot (mTru (mCall m_is_integer [] (rVar 2 rNil)))) (mTNot (mT (mChain dLe dLt (M.ret (.int 0)) (mVar 2) (mVar 1))))) (sRaise "BadDay" "day" (mVar 2)) (fun ev => some (.nx ev)))
def b_Days___init_3 : MS := (sPut 0 "length" ["Days"] (mVar 1))
def b_Days___init_4 : MS := (sPut 0 "offset" ["Days"] (mVar 2))
def b_Days___init : MS := (sSeq b_Days___init_1 (sSeq b_Days___init_2 (sSeq b_Days___init_3 b_Days___init_4)))
def m_Days___init : FM := mkF 3 3 b_Days___init
abbrev s_Days_bounds : Stmt := (inB (top 30) 5)
def sc_Days_bounds : Scope := mkSc [("self", 0), ("number", 0), ("begin", 0), ("checked_edge", 3)]
def N_Days_bounds : List Str := [(Str.ofString "self"), (Str.ofString "number"), (Str.ofString "begin")]
def P_Days_bounds : List Str := [(Str.ofString "self"), (Str.ofString "number")]
def df_Days_bounds : He.DefD := ⟨((Str.ofString "Days"), some (Str.ofString "bounds")), (Str.ofString "bounds"), (Str.ofString "Days.bounds"), defArgs s_Days_bounds, defBody s_Days_bounds, sc_Days_bounds, [], []⟩
theorem nd_Days_bounds : N_Days_bounds.Nodup := by decide +kernel
theorem so_Days_bounds : FnScope N_Days_bounds P_Days_bounds sc_Days_bounds := ⟨rfl, rfl, rfl, nd_Days_bounds, rfl, by decide +kernel, by decide +kernel⟩
theorem n_Days_bounds_self : N_Days_bounds[0]? = some (Str.ofString "self") := rfl
theorem v_Days_bounds_0_self : Vis sc_Days_bounds (Str.ofString "self") := Or.inl (by decide +kernel)
theorem n_Days_bounds_number : N_Days_bounds[1]? = some (Str.ofString "number") := rfl
theorem v_Days_bounds_0_number : Vis sc_Days_bounds (Str.ofString "number") := Or.inl (by decide +kernel)
theorem n_Days_bounds_begin : N_Days_bounds[2]? = some (Str.ofString "begin") := rfl
theorem l_Days_bounds_0_begin : Loc sc_Days_bounds (Str.ofString "begin") := Or.inl (by decide +kernel)
theorem v_Days_bounds_0_begin : Vis sc_Days_bounds (Str.ofString "begin") := Or.inl (by decide +kernel)
theorem g_Days_bounds_0_checked_edge : sc_Days_bounds.names.lookup (Str.ofString "checked_edge") = some .globalImplicit := by decide +kernel
def b_Days_bounds : MS := (sSeq (sSet 2 (m2 dAdd (mFld "offset" ["Days"] (mArV 0)) (m2 dMulI (mVar 1) (mFld "length" ["Days"] (mArV 0))))) (sRet (mTup (mCons (mCall m_checked_edge [] (rVar 2 rNil)) (mCons (mCall m_checked_edge [] (rCons (m2 dAdd (mVar 2) (mFld "length" ["Days"] (mArV 0))) rNil)) mNil)))))
def m_Days_bounds : FM := mkF 2 3 b_Days_bounds
abbrev s_Days_check_columns : Stmt := (inB (top 30) 11)
def sc_Days_check_columns : Scope := mkSc [("self", 0), ("columns", 0), ("is_integer", 3), ("MOST_COLUMNS", 3), ("BadColumns", 3)]
def N_Days_check_columns : List Str := [(Str.ofString "self"), (Str.ofString "columns")]
def P_Days_check_columns : List Str := [(Str.ofString "self"), (Str.ofString "columns")]
def df_Days_check_columns : He.DefD := ⟨((Str.ofString "Days"), some (Str.ofString "check_columns")), (Str.ofString "check_columns"), (Str.ofString "Days.check_columns"), defArgs s_Days_check_columns, defBody s_Days_check_columns, sc_Days_check_columns, [], []⟩
theorem nd_Days_check_columns : N_Days_check_columns.Nodup := by decide +kernel
theorem so_Days_check_columns : FnScope N_Days_check_columns P_Days_check_columns sc_Days_check_columns := ⟨rfl, rfl, rfl, nd_Days_check_columns, rfl, by decide +kernel, by decide +kernel⟩
theorem n_Days_check_columns_columns : N_Days_check_columns[1]? = some (Str.ofString "columns") := rfl
theorem v_Days_check_columns_0_columns : Vis sc_Days_check_columns (Str.ofString "columns") := Or.inl (by decide +kernel)
theorem g_Days_check_columns_0_is_integer : sc_Days_check_columns.names.lookup (Str.ofString "is_integer") = some .globalImplicit := by decide +kernel
theorem g_Days_check_columns_0_MOST_COLUMNS : sc_Days_check_columns.names.lookup (Str.ofString "MOST_COLUMNS") = some .globalImplicit := by decide +kernel
theorem n_Days_check_columns_self : N_Days_check_columns[0]? = some (Str.ofString "self") := rfl
theorem v_Days_check_columns_0_self : Vis sc_Days_check_columns (Str.ofString "self") := Or.inl (by decide +kernel)
theorem g_Days_check_columns_0_BadColumns : sc_Days_check_columns.names.lookup (Str.ofString "BadColumns") = some .globalImplicit := by decide +kernel
def b_Days_check_columns : MS := (sIf (mTOr (mTNot (mTru (mCall m_is_integer [] (rVar 1 rNil)))) (mTOr (mTNot (mT (mChain dLe dLe (M.ret (.int 1)) (mVar 1) (M.ret (.int 120))))) (mT (m2 dNe (m2 dMod (mFld "length" ["Days"] (mArV 0)) (mVar 1)) (M.ret (.int 0)))))) (sRaise "BadColumns" "columns" (mVar 1)) (fun ev => some (.nx ev)))
def m_Days_check_columns : FM := mkF 2 2 b_Days_check_columns
abbrev s_Days_drawn : Stmt := (inB (top 30) 12)
def sc_Days_drawn : Scope := mkScM [("self", 0), ("spans", 0), ("number", 0), ("columns", 0), ("begin", 1), ("end", 1), ("rows", 0), ("wide", 0), ("found", 0), ("column", 0), ("start", 0), ("held", 0), ("check_spans", 3), ("union", 3), ("range", 3), ("held_between", 3)] [("fast", "self"), ("fast", "spans"), ("fast", "number"), ("fast", "columns"), ("fast", "begin"), ("fast", "end"), ("fast", "left"), ("fast", "right"), ("fast", "rows"), ("fast", "wide"), ("fast", "found"), ("fast", "column"), ("fast", "start"), ("fast", "held")]
def sc_Days_drawn_1 : Scope := mkSc [(".0", 0), ("left", 0), ("right", 0), ("begin", 1), ("end", 1)]
def sc_Days_drawn_1r : Scope := mkSc [(".0", 0), ("left", 0), ("right", 0), ("begin", 2), ("end", 2)]
def N_Days_drawn : List Str := [(Str.ofString "self"), (Str.ofString "spans"), (Str.ofString "number"), (Str.ofString "columns"), (Str.ofString "begin"), (Str.ofString "end"), (Str.ofString "rows"), (Str.ofString "wide"), (Str.ofString "found"), (Str.ofString "column"), (Str.ofString "start"), (Str.ofString "held"), (Str.ofString "left"), (Str.ofString "right")]
def P_Days_drawn : List Str := [(Str.ofString "self"), (Str.ofString "spans"), (Str.ofString "number"), (Str.ofString "columns")]
def df_Days_drawn : He.DefD := ⟨((Str.ofString "Days"), some (Str.ofString "drawn")), (Str.ofString "drawn"), (Str.ofString "Days.drawn"), defArgs s_Days_drawn, defBody s_Days_drawn, sc_Days_drawn, [(.int 24)], []⟩
theorem nd_Days_drawn : N_Days_drawn.Nodup := by decide +kernel
theorem so_Days_drawn : FnScope N_Days_drawn P_Days_drawn sc_Days_drawn := ⟨rfl, rfl, rfl, nd_Days_drawn, rfl, by decide +kernel, by decide +kernel⟩
theorem n_Days_drawn_spans : N_Days_drawn[1]? = some (Str.ofString "spans") := rfl
theorem v_Days_drawn_0_spans : Vis sc_Days_drawn (Str.ofString "spans") := Or.inl (by decide +kernel)
theorem g_Days_drawn_0_check_spans : sc_Days_drawn.names.lookup (Str.ofString "check_spans") = some .globalImplicit := by decide +kernel
theorem n_Days_drawn_self : N_Days_drawn[0]? = some (Str.ofString "self") := rfl
theorem v_Days_drawn_0_self : Vis sc_Days_drawn (Str.ofString "self") := Or.inl (by decide +kernel)
theorem n_Days_drawn_columns : N_Days_drawn[3]? = some (Str.ofString "columns") := rfl
theorem v_Days_drawn_0_columns : Vis sc_Days_drawn (Str.ofString "columns") := Or.inl (by decide +kernel)
theorem n_Days_drawn_number : N_Days_drawn[2]? = some (Str.ofString "number") := rfl
theorem v_Days_drawn_0_number : Vis sc_Days_drawn (Str.ofString "number") := Or.inl (by decide +kernel)
theorem n_Days_drawn_end : N_Days_drawn[5]? = some (Str.ofString "end") := rfl
theorem l_Days_drawn_0_end : Loc sc_Days_drawn (Str.ofString "end") := Or.inr (by decide +kernel)
theorem n_Days_drawn_begin : N_Days_drawn[4]? = some (Str.ofString "begin") := rfl
theorem l_Days_drawn_0_begin : Loc sc_Days_drawn (Str.ofString "begin") := Or.inr (by decide +kernel)
theorem g_Days_drawn_0_union : sc_Days_drawn.names.lookup (Str.ofString "union") = some .globalImplicit := by decide +kernel
theorem n_Days_drawn_right : N_Days_drawn[13]? = some (Str.ofString "right") := rfl
theorem l_Days_drawn_1_right : Loc sc_Days_drawn_1 (Str.ofString "right") := Or.inl (by decide +kernel)
theorem il_Days_drawn_1_right : sc_Days_drawn_1.names.lookup (Str.ofString "right") = some .local := by decide +kernel
theorem n_Days_drawn_left : N_Days_drawn[12]? = some (Str.ofString "left") := rfl
theorem l_Days_drawn_1_left : Loc sc_Days_drawn_1 (Str.ofString "left") := Or.inl (by decide +kernel)
theorem il_Days_drawn_1_left : sc_Days_drawn_1.names.lookup (Str.ofString "left") = some .local := by decide +kernel
theorem v_Days_drawn_1_left : Vis sc_Days_drawn_1 (Str.ofString "left") := Or.inl (by decide +kernel)
theorem v_Days_drawn_1_end : Vis sc_Days_drawn_1 (Str.ofString "end") := Or.inr (Or.inl (by decide +kernel))
theorem v_Days_drawn_1_right : Vis sc_Days_drawn_1 (Str.ofString "right") := Or.inl (by decide +kernel)
theorem v_Days_drawn_1_begin : Vis sc_Days_drawn_1 (Str.ofString "begin") := Or.inr (Or.inl (by decide +kernel))
theorem n_Days_drawn_rows : N_Days_drawn[6]? = some (Str.ofString "rows") := rfl
theorem il_Days_drawn_0_rows : sc_Days_drawn.names.lookup (Str.ofString "rows") = some .local := by decide +kernel
theorem n_Days_drawn_wide : N_Days_drawn[7]? = some (Str.ofString "wide") := rfl
theorem l_Days_drawn_0_wide : Loc sc_Days_drawn (Str.ofString "wide") := Or.inl (by decide +kernel)
theorem n_Days_drawn_found : N_Days_drawn[8]? = some (Str.ofString "found") := rfl
theorem l_Days_drawn_0_found : Loc sc_Days_drawn (Str.ofString "found") := Or.inl (by decide +kernel)
theorem g_Days_drawn_0_range : sc_Days_drawn.names.lookup (Str.ofString "range") = some .globalImplicit := by decide +kernel
theorem n_Days_drawn_column : N_Days_drawn[9]? = some (Str.ofString "column") := rfl
theorem l_Days_drawn_0_column : Loc sc_Days_drawn (Str.ofString "column") := Or.inl (by decide +kernel)
theorem v_Days_drawn_0_begin : Vis sc_Days_drawn (Str.ofString "begin") := Or.inr (Or.inl (by decide +kernel))
theorem v_Days_drawn_0_column : Vis sc_Days_drawn (Str.ofString "column") := Or.inl (by decide +kernel)
theorem v_Days_drawn_0_wide : Vis sc_Days_drawn (Str.ofString "wide") := Or.inl (by decide +kernel)
theorem n_Days_drawn_start : N_Days_drawn[10]? = some (Str.ofString "start") := rfl
theorem l_Days_drawn_0_start : Loc sc_Days_drawn (Str.ofString "start") := Or.inl (by decide +kernel)
theorem v_Days_drawn_0_start : Vis sc_Days_drawn (Str.ofString "start") := Or.inl (by decide +kernel)
theorem v_Days_drawn_0_rows : Vis sc_Days_drawn (Str.ofString "rows") := Or.inl (by decide +kernel)
theorem g_Days_drawn_0_held_between : sc_Days_drawn.names.lookup (Str.ofString "held_between") = some .globalImplicit := by decide +kernel
theorem n_Days_drawn_held : N_Days_drawn[11]? = some (Str.ofString "held") := rfl
theorem l_Days_drawn_0_held : Loc sc_Days_drawn (Str.ofString "held") := Or.inl (by decide +kernel)
theorem v_Days_drawn_0_held : Vis sc_Days_drawn (Str.ofString "held") := Or.inl (by decide +kernel)
theorem v_Days_drawn_0_found : Vis sc_Days_drawn (Str.ofString "found") := Or.inl (by decide +kernel)
def b_Days_drawn_1 : MS := (sExpr (mCall m_check_spans [] (rVar 1 rNil)))
def b_Days_drawn_2 : MS := (sExpr (mMeth (fun r => some (rvD r)) "check_columns" [⟨"Days", m_Days_check_columns, (ids 2)⟩] (1 + 0) (mArV 0) (rVar 3 rNil)))
def b_Days_drawn_3 : MS := (sAsg (gsTup 2 (gsCons (setD 4) (gsCons (setD 5) gsNil))) (mMeth (fun r => some (rvD r)) "bounds" [⟨"Days", m_Days_bounds, (ids 2)⟩] (1 + 0) (mArV 0) (rVar 2 rNil)))
def b_Days_drawn_4 : MS := (sSet 6 (mFz (mComp [12, 13] (gsTup 2 (gsCons (setD 12) (gsCons (setD 13) gsNil))) (mTAnd (mT (m2 dLt (mVar 12) (mVar 5))) (mT (m2 dGt (mVar 13) (mVar 4)))) (mTup (mCons (mVar 12) (mCons (mVar 13) mNil))) (mItemsX ((rVar 1 rNil).bind fun ars => callS (fun r => some (rvD r)) m_union [.inl 0, .inr (.str (Str.ofString "half"))] (1 + 0) ars)))))
def b_Days_drawn_5 : MS := (sSet 7 (m2 dFdiv (mFld "length" ["Days"] (mArV 0)) (mVar 3)))
def b_Days_drawn_6 : MS := (sSet 8 (M.ret (.str (Str.ofString ""))))
def b_Days_drawn_7 : MS := (sFor (setD 9) (mRng rng1 (mCons (mVar 3) mNil)) (sSeq (sSet 10 (m2 dAdd (mVar 4) (m2 dMulI (mVar 9) (mVar 7)))) (sSeq (sSet 11 (mCall m_held_between [] (rVar 6 (rVar 10 (rCons (m2 dAdd (mVar 10) (mVar 7)) rNil))))) (sIf (mT (m2 dEq (mVar 11) (M.ret (.int 0)))) (sAug 8 dAddIS (M.ret (.str (Str.ofString ".")))) (sAug 8 dAddIS (mIf (mT (m2 dEq (mVar 11) (mVar 7))) (M.ret (.str (Str.ofString "#"))) (M.ret (.str (Str.ofString "+")))))))))
def b_Days_drawn_8 : MS := (sRetV 8)
def b_Days_drawn : MS := (sSeq b_Days_drawn_1 (sSeq b_Days_drawn_2 (sSeq b_Days_drawn_3 (sSeq b_Days_drawn_4 (sSeq b_Days_drawn_5 (sSeq b_Days_drawn_6 (sSeq b_Days_drawn_7 b_Days_drawn_8)))))))
def m_Days_drawn : FM := mkF 4 14 b_Days_drawn
abbrev s_law_bag : Stmt := (top 32)
def sc_law_bag : Scope := mkSc [("script", 0), ("at", 0), ("cell", 0), ("digits", 0), ("len", 3), ("abs", 3), ("int", 3)]
def N_law_bag : List Str := [(Str.ofString "script"), (Str.ofString "at"), (Str.ofString "cell"), (Str.ofString "digits")]
def P_law_bag : List Str := [(Str.ofString "script"), (Str.ofString "at")]
def df_law_bag : He.DefD := ⟨((Str.ofString "_law_bag"), none), (Str.ofString "_law_bag"), (Str.ofString "_law_bag"), defArgs s_law_bag, defBody s_law_bag, sc_law_bag, [], []⟩
theorem nd_law_bag : N_law_bag.Nodup := by decide +kernel
theorem so_law_bag : FnScope N_law_bag P_law_bag sc_law_bag := ⟨rfl, rfl, rfl, nd_law_bag, rfl, by decide +kernel, by decide +kernel⟩
theorem n_law_bag_at : N_law_bag[1]? = some (Str.ofString "at") := rfl
theorem v_law_bag_0_at : Vis sc_law_bag (Str.ofString "at") := Or.inl (by decide +kernel)
theorem g_law_bag_0_len : sc_law_bag.names.lookup (Str.ofString "len") = some .globalImplicit := by decide +kernel
theorem n_law_bag_script : N_law_bag[0]? = some (Str.ofString "script") := rfl
theorem v_law_bag_0_script : Vis sc_law_bag (Str.ofString "script") := Or.inl (by decide +kernel)
theorem n_law_bag_cell : N_law_bag[2]? = some (Str.ofString "cell") := rfl
theorem l_law_bag_0_cell : Loc sc_law_bag (Str.ofString "cell") := Or.inl (by decide +kernel)
theorem v_law_bag_0_cell : Vis sc_law_bag (Str.ofString "cell") := Or.inl (by decide +kernel)
theorem g_law_bag_0_abs : sc_law_bag.names.lookup (Str.ofString "abs") = some .globalImplicit := by decide +kernel
theorem n_law_bag_digits : N_law_bag[3]? = some (Str.ofString "digits") := rfl
theorem l_law_bag_0_digits : Loc sc_law_bag (Str.ofString "digits") := Or.inl (by decide +kernel)
theorem g_law_bag_0_int : sc_law_bag.names.lookup (Str.ofString "int") = some .globalImplicit := by decide +kernel
theorem v_law_bag_0_digits : Vis sc_law_bag (Str.ofString "digits") := Or.inl (by decide +kernel)
def b_law_bag : MS := (sSeq (sSet 2 (mIf (mT (m2 dLt (mVar 1) (mBN gLen 0))) (mIxN 0 (mVar 1)) (M.ret (.int 0)))) (sSeq (sSet 3 (mIf (mT (m2 dGe (mB gAbsB (mCons (mVar 2) mNil)) (m2 dPow (M.ret (.int 10)) (M.ret (.int 18))))) (mB gAbsB (mCons (mVar 2) mNil)) (M.ret (.int 0)))) (sRetF (mLst (mCons (mVar 3) (mCons (m2 dAdd (m2 dAdd (m2 dMulI (m2 dMod (mB gInt1s (mCons (mVar 2) mNil)) (M.ret (.int 2305843009213693951))) (M.ret (.int 5))) (m2 dMulI (M.ret (.int 104729)) (mVar 1))) (M.ret (.int 6151))) (mCons (M.ret (.int 0)) mNil)))))))
def m_law_bag : FM := mkF 2 4 b_law_bag
abbrev s_law_take : Stmt := (top 33)
def sc_law_take : Scope := mkSc [("bag", 0), ("many", 0), ("digit", 0), ("mixed", 0), ("int", 3)]
def N_law_take : List Str := [(Str.ofString "bag"), (Str.ofString "many"), (Str.ofString "digit"), (Str.ofString "mixed")]
def P_law_take : List Str := [(Str.ofString "bag"), (Str.ofString "many")]
def df_law_take : He.DefD := ⟨((Str.ofString "_law_take"), none), (Str.ofString "_law_take"), (Str.ofString "_law_take"), defArgs s_law_take, defBody s_law_take, sc_law_take, [], []⟩
theorem nd_law_take : N_law_take.Nodup := by decide +kernel
theorem so_law_take : FnScope N_law_take P_law_take sc_law_take := ⟨rfl, rfl, rfl, nd_law_take, rfl, by decide +kernel, by decide +kernel⟩
theorem n_law_take_bag : N_law_take[0]? = some (Str.ofString "bag") := rfl
theorem v_law_take_0_bag : Vis sc_law_take (Str.ofString "bag") := Or.inl (by decide +kernel)
theorem g_law_take_0_int : sc_law_take.names.lookup (Str.ofString "int") = some .globalImplicit := by decide +kernel
theorem n_law_take_many : N_law_take[1]? = some (Str.ofString "many") := rfl
theorem v_law_take_0_many : Vis sc_law_take (Str.ofString "many") := Or.inl (by decide +kernel)
theorem n_law_take_digit : N_law_take[2]? = some (Str.ofString "digit") := rfl
theorem l_law_take_0_digit : Loc sc_law_take (Str.ofString "digit") := Or.inl (by decide +kernel)
theorem v_law_take_0_digit : Vis sc_law_take (Str.ofString "digit") := Or.inl (by decide +kernel)
theorem n_law_take_mixed : N_law_take[3]? = some (Str.ofString "mixed") := rfl
theorem l_law_take_0_mixed : Loc sc_law_take (Str.ofString "mixed") := Or.inl (by decide +kernel)
theorem v_law_take_0_mixed : Vis sc_law_take (Str.ofString "mixed") := Or.inl (by decide +kernel)
def b_law_take : MS := (sSeq (sIf (mT (m2 dGt (mIxN 0 (M.ret (.int 0))) (M.ret (.int 0)))) (sSeq (sSet 2 (m2 dMod (mB gInt1s (mCons (mIxN 0 (M.ret (.int 0))) mNil)) (mVar 1))) (sSeq (sSetAt 0 (m2 dFdiv (mIxN 0 (M.ret (.int 0))) (mVar 1)) (M.ret (.int 0))) (sRetV 2))) (fun ev => some (.nx ev))) (sSeq (sSetAt 0 (m2 dAdd (mIxN 0 (M.ret (.int 2))) (M.ret (.int 1))) (M.ret (.int 2))) (sSeq (sSet 3 (m2 dMod (mB gInt1s (mCons (m2 dPow (m2 dAdd (mIxN 0 (M.ret (.int 1))) (m2 dMulI (M.ret (.int 999983)) (mIxN 0 (M.ret (.int 2))))) (M.ret (.int 3))) mNil)) (M.ret (.int 2305843009213693921)))) (sSeq (sSet 3 (m2 dMod (mB gInt1s (mCons (m2 dPow (m2 dAdd (mVar 3) (m2 dMulI (M.ret (.int 49979687)) (mIxN 0 (M.ret (.int 2))))) (M.ret (.int 2))) mNil)) (M.ret (.int 2305843009213693951)))) (sRet (m2 dMod (mB gInt1s (mCons (m2 dFdiv (mVar 3) (M.ret (.int 1024))) mNil)) (mVar 1)))))))
def m_law_take : FM := mkF 2 4 b_law_take
abbrev s_law_of : Stmt := (top 34)
def sc_law_of : Scope := mkSc [("bag", 0), ("some", 0), ("_law_take", 3), ("len", 3)]
def N_law_of : List Str := [(Str.ofString "bag"), (Str.ofString "some")]
def P_law_of : List Str := [(Str.ofString "bag"), (Str.ofString "some")]
def df_law_of : He.DefD := ⟨((Str.ofString "_law_of"), none), (Str.ofString "_law_of"), (Str.ofString "_law_of"), defArgs s_law_of, defBody s_law_of, sc_law_of, [], []⟩
theorem nd_law_of : N_law_of.Nodup := by decide +kernel
theorem so_law_of : FnScope N_law_of P_law_of sc_law_of := ⟨rfl, rfl, rfl, nd_law_of, rfl, by decide +kernel, by decide +kernel⟩
theorem g_law_of_0_len : sc_law_of.names.lookup (Str.ofString "len") = some .globalImplicit := by decide +kernel
theorem n_law_of_some : N_law_of[1]? = some (Str.ofString "some") := rfl
theorem v_law_of_0_some : Vis sc_law_of (Str.ofString "some") := Or.inl (by decide +kernel)
theorem n_law_of_bag : N_law_of[0]? = some (Str.ofString "bag") := rfl
theorem v_law_of_0_bag : Vis sc_law_of (Str.ofString "bag") := Or.inl (by decide +kernel)
theorem g_law_of_0_law_take : sc_law_of.names.lookup (Str.ofString "_law_take") = some .globalImplicit := by decide +kernel
def b_law_of : MS := (sRet (mIxN 1 (mCall m_law_take [] (rVar 0 (rCons (mBN gLen 1) rNil)))))
def m_law_of : FM := mkF 2 2 b_law_of
abbrev s_law_number : Stmt := (top 35)
def sc_law_number : Scope := mkSc [("bag", 0), ("road", 0), ("sign", 0), ("_law_take", 3)]
def N_law_number : List Str := [(Str.ofString "bag"), (Str.ofString "road"), (Str.ofString "sign")]
def P_law_number : List Str := [(Str.ofString "bag")]
def df_law_number : He.DefD := ⟨((Str.ofString "_law_number"), none), (Str.ofString "_law_number"), (Str.ofString "_law_number"), defArgs s_law_number, defBody s_law_number, sc_law_number, [], []⟩
theorem nd_law_number : N_law_number.Nodup := by decide +kernel
theorem so_law_number : FnScope N_law_number P_law_number sc_law_number := ⟨rfl, rfl, rfl, nd_law_number, rfl, by decide +kernel, by decide +kernel⟩
theorem n_law_number_bag : N_law_number[0]? = some (Str.ofString "bag") := rfl
theorem v_law_number_0_bag : Vis sc_law_number (Str.ofString "bag") := Or.inl (by decide +kernel)
theorem g_law_number_0_law_take : sc_law_number.names.lookup (Str.ofString "_law_take") = some .globalImplicit := by decide +kernel
theorem n_law_number_road : N_law_number[1]? = some (Str.ofString "road") := rfl
theorem l_law_number_0_road : Loc sc_law_number (Str.ofString "road") := Or.inl (by decide +kernel)
theorem v_law_number_0_road : Vis sc_law_number (Str.ofString "road") := Or.inl (by decide +kernel)
theorem n_law_number_sign : N_law_number[2]? = some (Str.ofString "sign") := rfl
theorem l_law_number_0_sign : Loc sc_law_number (Str.ofString "sign") := Or.inl (by decide +kernel)
theorem v_law_number_0_sign : Vis sc_law_number (Str.ofString "sign") := Or.inl (by decide +kernel)
def b_law_number : MS := (sSeq (sSet 1 (mCall m_law_take [] (rVar 0 (rCons (M.ret (.int 4)) rNil)))) (sSeq (sIf (mT (m2 dLt (mVar 1) (M.ret (.int 2)))) (sRet (m2 dSub (mCall m_law_take [] (rVar 0 (rCons (M.ret (.int 9)) rNil))) (m2 dMulI (M.ret (.int 3)) (mVar 1)))) (fun ev => some (.nx ev))) (sSeq (sSet 2 (m2 dSub (M.ret (.int 1)) (m2 dMulI (M.ret (.int 2)) (mCall m_law_take [] (rVar 0 (rCons (M.ret (.int 2)) rNil)))))) (sSeq (sIf (mT (m2 dEq (mVar 1) (M.ret (.int 2)))) (sRet (m2 dMulI (mVar 2) (m2 dSub (m2 dPow (M.ret (.int 10)) (M.ret (.int 30))) (mCall m_law_take [] (rVar 0 (rCons (M.ret (.int 3)) rNil)))))) (fun ev => some (.nx ev))) (sRet (m2 dMulI (mVar 2) (m2 dAdd (m2 dMulI (mCall m_law_take [] (rVar 0 (rCons (m2 dPow (M.ret (.int 10)) (M.ret (.int 15))) rNil))) (m2 dPow (M.ret (.int 10)) (M.ret (.int 15)))) (mCall m_law_take [] (rVar 0 (rCons (m2 dPow (M.ret (.int 10)) (M.ret (.int 15))) rNil))))))))))
def m_law_number : FM := mkF 1 3 b_law_number
abbrev s_law_stretch : Stmt := (top 36)
def sc_law_stretch : Scope := mkSc [("bag", 0), ("road", 0), ("begin", 0), ("end", 0), ("_law_take", 3), ("_law_number", 3), ("min", 3), ("int", 3), ("max", 3)]
def N_law_stretch : List Str := [(Str.ofString "bag"), (Str.ofString "road"), (Str.ofString "begin"), (Str.ofString "end")]
def P_law_stretch : List Str := [(Str.ofString "bag")]
def df_law_stretch : He.DefD := ⟨((Str.ofString "_law_stretch"), none), (Str.ofString "_law_stretch"), (Str.ofString "_law_stretch"), defArgs s_law_stretch, defBody s_law_stretch, sc_law_stretch, [], []⟩
theorem nd_law_stretch : N_law_stretch.Nodup := by decide +kernel
theorem so_law_stretch : FnScope N_law_stretch P_law_stretch sc_law_stretch := ⟨rfl, rfl, rfl, nd_law_stretch, rfl, by decide +kernel, by decide +kernel⟩
theorem n_law_stretch_bag : N_law_stretch[0]? = some (Str.ofString "bag") := rfl
theorem v_law_stretch_0_bag : Vis sc_law_stretch (Str.ofString "bag") := Or.inl (by decide +kernel)
theorem g_law_stretch_0_law_take : sc_law_stretch.names.lookup (Str.ofString "_law_take") = some .globalImplicit := by decide +kernel
theorem n_law_stretch_road : N_law_stretch[1]? = some (Str.ofString "road") := rfl
theorem l_law_stretch_0_road : Loc sc_law_stretch (Str.ofString "road") := Or.inl (by decide +kernel)
theorem v_law_stretch_0_road : Vis sc_law_stretch (Str.ofString "road") := Or.inl (by decide +kernel)
theorem g_law_stretch_0_law_number : sc_law_stretch.names.lookup (Str.ofString "_law_number") = some .globalImplicit := by decide +kernel
theorem n_law_stretch_begin : N_law_stretch[2]? = some (Str.ofString "begin") := rfl
theorem l_law_stretch_0_begin : Loc sc_law_stretch (Str.ofString "begin") := Or.inl (by decide +kernel)
theorem v_law_stretch_0_begin : Vis sc_law_stretch (Str.ofString "begin") := Or.inl (by decide +kernel)
theorem n_law_stretch_end : N_law_stretch[3]? = some (Str.ofString "end") := rfl
theorem l_law_stretch_0_end : Loc sc_law_stretch (Str.ofString "end") := Or.inl (by decide +kernel)
theorem v_law_stretch_0_end : Vis sc_law_stretch (Str.ofString "end") := Or.inl (by decide +kernel)
theorem g_law_stretch_0_int : sc_law_stretch.names.lookup (Str.ofString "int") = some .globalImplicit := by decide +kernel
theorem g_law_stretch_0_max : sc_law_stretch.names.lookup (Str.ofString "max") = some .globalImplicit := by decide +kernel
theorem g_law_stretch_0_min : sc_law_stretch.names.lookup (Str.ofString "min") = some .globalImplicit := by decide +kernel
def b_law_stretch_1 : MS := (sSet 1 (mCall m_law_take [] (rVar 0 (rCons (M.ret (.int 7)) rNil))))
def b_law_stretch_2 : MS := (sSet 2 (mIf (mT (m2 dLt (mVar 1) (M.ret (.int 4)))) (mCall m_law_take [] (rVar 0 (rCons (M.ret (.int 8)) rNil))) (mCall m_law_number [] (rVar 0 rNil))))
def b_law_stretch_3 : MS := (sSet 3 (mIf (mT (m2 dLt (mVar 1) (M.ret (.int 4)))) (m2 dAdd (mVar 2) (mCall m_law_take [] (rVar 0 (rCons (M.ret (.int 5)) rNil)))) (mCall m_law_number [] (rVar 0 rNil))))
def b_law_stretch_4 : MS := (sIf (mT (m2 dIn (mVar 1) (mTup (mCons (M.ret (.int 2)) (mCons (M.ret (.int 6)) mNil))))) (sSet 2 (m1 dNeg (m2 dPow (M.ret (.int 10)) (M.ret (.int 31))))) (fun ev => some (.nx ev)))
def b_law_stretch_5 : MS := (sIf (mT (m2 dIn (mVar 1) (mTup (mCons (M.ret (.int 3)) (mCons (M.ret (.int 6)) mNil))))) (sSet 3 (m2 dPow (M.ret (.int 10)) (M.ret (.int 31)))) (fun ev => some (.nx ev)))
def b_law_stretch_6 : MS := (sRet (mTup (mCons (mB gMin2 (mCons (mB gInt1s (mCons (mVar 2) mNil)) (mCons (mB gInt1s (mCons (mVar 3) mNil)) mNil))) (mCons (mB gMax2 (mCons (mB gInt1s (mCons (mVar 2) mNil)) (mCons (mB gInt1s (mCons (mVar 3) mNil)) mNil))) mNil))))
def b_law_stretch : MS := (sSeq b_law_stretch_1 (sSeq b_law_stretch_2 (sSeq b_law_stretch_3 (sSeq b_law_stretch_4 (sSeq b_law_stretch_5 b_law_stretch_6)))))
def m_law_stretch : FM := mkF 1 4 b_law_stretch
abbrev s_law_union : Stmt := (top 37)
def sc_law_union : Scope := mkSc [("spans", 0), ("shut", 0), ("found", 0), ("begin", 0), ("end", 0), ("sorted", 3), ("max", 3), ("int", 3)]
def N_law_union : List Str := [(Str.ofString "spans"), (Str.ofString "shut"), (Str.ofString "found"), (Str.ofString "begin"), (Str.ofString "end")]
def P_law_union : List Str := [(Str.ofString "spans"), (Str.ofString "shut")]
def df_law_union : He.DefD := ⟨((Str.ofString "_law_union"), none), (Str.ofString "_law_union"), (Str.ofString "_law_union"), defArgs s_law_union, defBody s_law_union, sc_law_union, [], []⟩
theorem nd_law_union : N_law_union.Nodup := by decide +kernel
theorem so_law_union : FnScope N_law_union P_law_union sc_law_union := ⟨rfl, rfl, rfl, nd_law_union, rfl, by decide +kernel, by decide +kernel⟩
theorem n_law_union_found : N_law_union[2]? = some (Str.ofString "found") := rfl
theorem l_law_union_0_found : Loc sc_law_union (Str.ofString "found") := Or.inl (by decide +kernel)
theorem n_law_union_spans : N_law_union[0]? = some (Str.ofString "spans") := rfl
theorem v_law_union_0_spans : Vis sc_law_union (Str.ofString "spans") := Or.inl (by decide +kernel)
theorem g_law_union_0_sorted : sc_law_union.names.lookup (Str.ofString "sorted") = some .globalImplicit := by decide +kernel
theorem n_law_union_end : N_law_union[4]? = some (Str.ofString "end") := rfl
theorem l_law_union_0_end : Loc sc_law_union (Str.ofString "end") := Or.inl (by decide +kernel)
theorem n_law_union_begin : N_law_union[3]? = some (Str.ofString "begin") := rfl
theorem l_law_union_0_begin : Loc sc_law_union (Str.ofString "begin") := Or.inl (by decide +kernel)
theorem v_law_union_0_begin : Vis sc_law_union (Str.ofString "begin") := Or.inl (by decide +kernel)
theorem v_law_union_0_end : Vis sc_law_union (Str.ofString "end") := Or.inl (by decide +kernel)
theorem n_law_union_shut : N_law_union[1]? = some (Str.ofString "shut") := rfl
theorem v_law_union_0_shut : Vis sc_law_union (Str.ofString "shut") := Or.inl (by decide +kernel)
theorem v_law_union_0_found : Vis sc_law_union (Str.ofString "found") := Or.inl (by decide +kernel)
theorem g_law_union_0_int : sc_law_union.names.lookup (Str.ofString "int") = some .globalImplicit := by decide +kernel
theorem g_law_union_0_max : sc_law_union.names.lookup (Str.ofString "max") = some .globalImplicit := by decide +kernel
def b_law_union : MS := (sSeq (sSetF 2 (mLst mNil)) (sSeq (sFor (gsTup 2 (gsCons (setD 3) (gsCons (setD 4) gsNil))) (mItemsX (mB gSortP (mCons (mVar 0) mNil))) (sSeq (sIf (mTAnd (mT (m2 dEq (mVar 3) (mVar 4))) (mTNot (mTru (mVar 1)))) (fun ev => some (.ct ev)) (fun ev => some (.nx ev))) (sIf (mTAnd (mT (m2N dNe 2 (mFz (mLst mNil)))) (mT (m2 dLe (mVar 3) (m2 dIx (mIxN 2 (m1 dNeg (M.ret (.int 1)))) (M.ret (.int 1)))))) (sSetAt 2 (mTup (mCons (m2 dIx (mIxN 2 (m1 dNeg (M.ret (.int 1)))) (M.ret (.int 0))) (mCons (mB gMax2 (mCons (mB gInt1s (mCons (mVar 4) mNil)) (mCons (mB gInt1s (mCons (m2 dIx (mIxN 2 (m1 dNeg (M.ret (.int 1)))) (M.ret (.int 1))) mNil)) mNil))) mNil))) (m1 dNeg (M.ret (.int 1)))) (sApp 2 (mTup (mCons (mVar 3) (mCons (mVar 4) mNil))))))) (sRetV 2)))
def m_law_union : FM := mkF 2 5 b_law_union
abbrev s_law_is_strict : Stmt := (top 38)
def sc_law_is_strict : Scope := mkScM [("told", 1), ("due", 1), ("isinstance", 3), ("tuple", 3), ("list", 3), ("len", 3), ("all", 3), ("range", 3), ("str", 3), ("int", 3), ("bool", 3)] [("fast", "told"), ("fast", "due"), ("fast", "k")]
def sc_law_is_strict_1 : Scope := mkSc [(".0", 0), ("k", 0), ("_law_is_strict", 3), ("due", 1), ("told", 1)]
def sc_law_is_strict_1r : Scope := mkSc [(".0", 0), ("k", 0), ("_law_is_strict", 3), ("due", 2), ("told", 2)]
def N_law_is_strict : List Str := [(Str.ofString "told"), (Str.ofString "due"), (Str.ofString "k")]
def P_law_is_strict : List Str := [(Str.ofString "told"), (Str.ofString "due")]
def df_law_is_strict : He.DefD := ⟨((Str.ofString "_law_is_strict"), none), (Str.ofString "_law_is_strict"), (Str.ofString "_law_is_strict"), defArgs s_law_is_strict, defBody s_law_is_strict, sc_law_is_strict, [], []⟩
theorem nd_law_is_strict : N_law_is_strict.Nodup := by decide +kernel
theorem so_law_is_strict : FnScope N_law_is_strict P_law_is_strict sc_law_is_strict := ⟨rfl, rfl, rfl, nd_law_is_strict, rfl, by decide +kernel, by decide +kernel⟩
theorem g_law_is_strict_0_tuple : sc_law_is_strict.names.lookup (Str.ofString "tuple") = some .globalImplicit := by decide +kernel
theorem n_law_is_strict_due : N_law_is_strict[1]? = some (Str.ofString "due") := rfl
theorem v_law_is_strict_0_due : Vis sc_law_is_strict (Str.ofString "due") := Or.inr (Or.inl (by decide +kernel))
theorem g_law_is_strict_0_isinstance : sc_law_is_strict.names.lookup (Str.ofString "isinstance") = some .globalImplicit := by decide +kernel
theorem g_law_is_strict_0_list : sc_law_is_strict.names.lookup (Str.ofString "list") = some .globalImplicit := by decide +kernel
theorem n_law_is_strict_told : N_law_is_strict[0]? = some (Str.ofString "told") := rfl
theorem v_law_is_strict_0_told : Vis sc_law_is_strict (Str.ofString "told") := Or.inr (Or.inl (by decide +kernel))
theorem g_law_is_strict_0_len : sc_law_is_strict.names.lookup (Str.ofString "len") = some .globalImplicit := by decide +kernel
theorem g_law_is_strict_0_range : sc_law_is_strict.names.lookup (Str.ofString "range") = some .globalImplicit := by decide +kernel
theorem n_law_is_strict_k : N_law_is_strict[2]? = some (Str.ofString "k") := rfl
theorem l_law_is_strict_1_k : Loc sc_law_is_strict_1 (Str.ofString "k") := Or.inl (by decide +kernel)
theorem il_law_is_strict_1_k : sc_law_is_strict_1.names.lookup (Str.ofString "k") = some .local := by decide +kernel
theorem v_law_is_strict_1_k : Vis sc_law_is_strict_1 (Str.ofString "k") := Or.inl (by decide +kernel)
theorem v_law_is_strict_1_due : Vis sc_law_is_strict_1 (Str.ofString "due") := Or.inr (Or.inl (by decide +kernel))
theorem v_law_is_strict_1_told : Vis sc_law_is_strict_1 (Str.ofString "told") := Or.inr (Or.inl (by decide +kernel))
theorem g_law_is_strict_1_law_is_strict : sc_law_is_strict_1.names.lookup (Str.ofString "_law_is_strict") = some .globalImplicit := by decide +kernel
theorem g_law_is_strict_0_all : sc_law_is_strict.names.lookup (Str.ofString "all") = some .globalImplicit := by decide +kernel
theorem g_law_is_strict_0_str : sc_law_is_strict.names.lookup (Str.ofString "str") = some .globalImplicit := by decide +kernel
theorem g_law_is_strict_0_int : sc_law_is_strict.names.lookup (Str.ofString "int") = some .globalImplicit := by decide +kernel
theorem g_law_is_strict_0_bool : sc_law_is_strict.names.lookup (Str.ofString "bool") = some .globalImplicit := by decide +kernel
def b_law_is_strict (m : FM) : MS := (sSeq (sIf (mTOr (mTru (mB (gIsi kt ins) (mCons (mVar 1) (mCons (M.ret (.ty "tuple")) mNil)))) (mTru (mB (gIsi kt ins) (mCons (mVar 1) (mCons (M.ret (.ty "list")) mNil))))) (sSeq (sIf (mTOr (mT (m2 dNe (mB (gIsi kt ins) (mCons (mVar 1) (mCons (M.ret (.ty "tuple")) mNil))) (mB (gIsi kt ins) (mCons (mVar 0) (mCons (M.ret (.ty "tuple")) mNil))))) (mT (m2 dNe (mB (gIsi kt ins) (mCons (mVar 1) (mCons (M.ret (.ty "list")) mNil))) (mB (gIsi kt ins) (mCons (mVar 0) (mCons (M.ret (.ty "list")) mNil)))))) (sRet (M.ret (.bl false))) (fun ev => some (.nx ev))) (sSeq (sIf (mT (m2 dNe (mBN gLen 0) (mBN gLen 1))) (sRet (M.ret (.bl false))) (fun ev => some (.nx ev))) (sRet (mB gAll (mCons (mFz (mComp [2] (setD 2) (M.ret true) (mCall m [] (rCons (mIxN 0 (mVar 2)) (rCons (mIxN 1 (mVar 2)) rNil))) (mRng rng1 (mCons (mBN gLen 1) mNil)))) mNil))))) (fun ev => some (.nx ev))) (sSeq (sIf (mT (m2 dIsN (mVar 1) (M.ret .non))) (sRet (m2 dIsN (mVar 0) (M.ret .non))) (fun ev => some (.nx ev))) (sSeq (sIf (mTru (mB (gIsi kt ins) (mCons (mVar 1) (mCons (M.ret (.ty "str")) mNil)))) (sRet (mAnd (mB (gIsi kt ins) (mCons (mVar 0) (mCons (M.ret (.ty "str")) mNil))) (m2 dEq (mVar 0) (mVar 1)))) (fun ev => some (.nx ev))) (sRet (mAnd (mB (gIsi kt ins) (mCons (mVar 0) (mCons (M.ret (.ty "int")) mNil))) (mAnd (m2 dEq (mB (gIsi kt ins) (mCons (mVar 0) (mCons (M.ret (.ty "bool")) mNil))) (mB (gIsi kt ins) (mCons (mVar 1) (mCons (M.ret (.ty "bool")) mNil)))) (m2 dEq (mVar 0) (mVar 1))))))))
def m_law_is_strict : Nat → FM
  | 0 => fun _ => none
  | n + 1 => mkF 2 3 (b_law_is_strict (m_law_is_strict n))
abbrev s_law_is_near : Stmt := (top 39)
def sc_law_is_near : Scope := mkSc [("thing", 0), ("isinstance", 3), ("int", 3), ("bool", 3)]
def N_law_is_near : List Str := [(Str.ofString "thing")]
def P_law_is_near : List Str := [(Str.ofString "thing")]
def df_law_is_near : He.DefD := ⟨((Str.ofString "_law_is_near"), none), (Str.ofString "_law_is_near"), (Str.ofString "_law_is_near"), defArgs s_law_is_near, defBody s_law_is_near, sc_law_is_near, [], []⟩
theorem nd_law_is_near : N_law_is_near.Nodup := by decide +kernel
theorem so_law_is_near : FnScope N_law_is_near P_law_is_near sc_law_is_near := ⟨rfl, rfl, rfl, nd_law_is_near, rfl, by decide +kernel, by decide +kernel⟩
theorem g_law_is_near_0_int : sc_law_is_near.names.lookup (Str.ofString "int") = some .globalImplicit := by decide +kernel
theorem n_law_is_near_thing : N_law_is_near[0]? = some (Str.ofString "thing") := rfl
theorem v_law_is_near_0_thing : Vis sc_law_is_near (Str.ofString "thing") := Or.inl (by decide +kernel)
theorem g_law_is_near_0_isinstance : sc_law_is_near.names.lookup (Str.ofString "isinstance") = some .globalImplicit := by decide +kernel
theorem g_law_is_near_0_bool : sc_law_is_near.names.lookup (Str.ofString "bool") = some .globalImplicit := by decide +kernel
def b_law_is_near : MS := (sRet (mAnd (mB (gIsi kt ins) (mCons (mVar 0) (mCons (M.ret (.ty "int")) mNil))) (mAnd (mNot (mB (gIsi kt ins) (mCons (mVar 0) (mCons (M.ret (.ty "bool")) mNil)))) (mChain dLe dLe (m1 dNeg (m2 dPow (M.ret (.int 10)) (M.ret (.int 30)))) (mVar 0) (m2 dPow (M.ret (.int 10)) (M.ret (.int 30)))))))
def m_law_is_near : FM := mkF 1 1 b_law_is_near
abbrev s_law_is_edge : Stmt := (top 40)
def sc_law_is_edge : Scope := mkSc [("thing", 0), ("_law_is_near", 3), ("isinstance", 3), ("int", 3), ("abs", 3)]
def N_law_is_edge : List Str := [(Str.ofString "thing")]
def P_law_is_edge : List Str := [(Str.ofString "thing")]
def df_law_is_edge : He.DefD := ⟨((Str.ofString "_law_is_edge"), none), (Str.ofString "_law_is_edge"), (Str.ofString "_law_is_edge"), defArgs s_law_is_edge, defBody s_law_is_edge, sc_law_is_edge, [], []⟩
theorem nd_law_is_edge : N_law_is_edge.Nodup := by decide +kernel
theorem so_law_is_edge : FnScope N_law_is_edge P_law_is_edge sc_law_is_edge := ⟨rfl, rfl, rfl, nd_law_is_edge, rfl, by decide +kernel, by decide +kernel⟩
theorem n_law_is_edge_thing : N_law_is_edge[0]? = some (Str.ofString "thing") := rfl
theorem v_law_is_edge_0_thing : Vis sc_law_is_edge (Str.ofString "thing") := Or.inl (by decide +kernel)
theorem g_law_is_edge_0_law_is_near : sc_law_is_edge.names.lookup (Str.ofString "_law_is_near") = some .globalImplicit := by decide +kernel
theorem g_law_is_edge_0_int : sc_law_is_edge.names.lookup (Str.ofString "int") = some .globalImplicit := by decide +kernel
theorem g_law_is_edge_0_isinstance : sc_law_is_edge.names.lookup (Str.ofString "isinstance") = some .globalImplicit := by decide +kernel
theorem g_law_is_edge_0_abs : sc_law_is_edge.names.lookup (Str.ofString "abs") = some .globalImplicit := by decide +kernel
def b_law_is_edge : MS := (sRet (mOr (mCall m_law_is_near [] (rVar 0 rNil)) (mAnd (mB (gIsi kt ins) (mCons (mVar 0) (mCons (M.ret (.ty "int")) mNil))) (m2 dEq (mB gAbsB (mCons (mVar 0) mNil)) (m2 dPow (M.ret (.int 10)) (M.ret (.int 31)))))))
def m_law_is_edge : FM := mkF 1 1 b_law_is_edge
abbrev s_law_is_stretch : Stmt := (top 41)
def sc_law_is_stretch : Scope := mkSc [("thing", 0), ("isinstance", 3), ("tuple", 3), ("len", 3), ("_law_is_edge", 3)]
def N_law_is_stretch : List Str := [(Str.ofString "thing")]
def P_law_is_stretch : List Str := [(Str.ofString "thing")]
def df_law_is_stretch : He.DefD := ⟨((Str.ofString "_law_is_stretch"), none), (Str.ofString "_law_is_stretch"), (Str.ofString "_law_is_stretch"), defArgs s_law_is_stretch, defBody s_law_is_stretch, sc_law_is_stretch, [], []⟩
theorem nd_law_is_stretch : N_law_is_stretch.Nodup := by decide +kernel
theorem so_law_is_stretch : FnScope N_law_is_stretch P_law_is_stretch sc_law_is_stretch := ⟨rfl, rfl, rfl, nd_law_is_stretch, rfl, by decide +kernel, by decide +kernel⟩
theorem g_law_is_stretch_0_tuple : sc_law_is_stretch.names.lookup (Str.ofString "tuple") = some .globalImplicit := by decide +kernel
theorem n_law_is_stretch_thing : N_law_is_stretch[0]? = some (Str.ofString "thing") := rfl
theorem v_law_is_stretch_0_thing : Vis sc_law_is_stretch (Str.ofString "thing") := Or.inl (by decide +kernel)
theorem g_law_is_stretch_0_isinstance : sc_law_is_stretch.names.lookup (Str.ofString "isinstance") = some .globalImplicit := by decide +kernel
theorem g_law_is_stretch_0_len : sc_law_is_stretch.names.lookup (Str.ofString "len") = some .globalImplicit := by decide +kernel
theorem g_law_is_stretch_0_law_is_edge : sc_law_is_stretch.names.lookup (Str.ofString "_law_is_edge") = some .globalImplicit := by decide +kernel
def b_law_is_stretch : MS := (sSeq (sIf (mTOr (mTNot (mTru (mB (gIsi kt ins) (mCons (mVar 0) (mCons (M.ret (.ty "tuple")) mNil))))) (mTOr (mT (m2 dNe (mBN gLen 0) (M.ret (.int 2)))) (mTOr (mTNot (mTru (mCall m_law_is_edge [] (rCons (mIxN 0 (M.ret (.int 0))) rNil)))) (mTNot (mTru (mCall m_law_is_edge [] (rCons (mIxN 0 (M.ret (.int 1))) rNil))))))) (sRet (M.ret (.bl false))) (fun ev => some (.nx ev))) (sRet (mAnd (m2 dLe (mIxN 0 (M.ret (.int 0))) (mIxN 0 (M.ret (.int 1)))) (mAnd (m2 dLt (mIxN 0 (M.ret (.int 0))) (m2 dPow (M.ret (.int 10)) (M.ret (.int 31)))) (m2 dGt (mIxN 0 (M.ret (.int 1))) (m1 dNeg (m2 dPow (M.ret (.int 10)) (M.ret (.int 31)))))))))
def m_law_is_stretch : FM := mkF 1 1 b_law_is_stretch
abbrev s_law_odd : Stmt := (top 42)
def sc_law_odd : Scope := mkSc [("bag", 0), ("some", 0), ("_law_of", 3)]
def N_law_odd : List Str := [(Str.ofString "bag"), (Str.ofString "some")]
def P_law_odd : List Str := [(Str.ofString "bag")]
def df_law_odd : He.DefD := ⟨((Str.ofString "_law_odd"), none), (Str.ofString "_law_odd"), (Str.ofString "_law_odd"), defArgs s_law_odd, defBody s_law_odd, sc_law_odd, [], []⟩
theorem nd_law_odd : N_law_odd.Nodup := by decide +kernel
theorem so_law_odd : FnScope N_law_odd P_law_odd sc_law_odd := ⟨rfl, rfl, rfl, nd_law_odd, rfl, by decide +kernel, by decide +kernel⟩
theorem n_law_odd_some : N_law_odd[1]? = some (Str.ofString "some") := rfl
theorem l_law_odd_0_some : Loc sc_law_odd (Str.ofString "some") := Or.inl (by decide +kernel)
theorem v_law_odd_0_some : Vis sc_law_odd (Str.ofString "some") := Or.inl (by decide +kernel)
theorem n_law_odd_bag : N_law_odd[0]? = some (Str.ofString "bag") := rfl
theorem v_law_odd_0_bag : Vis sc_law_odd (Str.ofString "bag") := Or.inl (by decide +kernel)
theorem g_law_odd_0_law_of : sc_law_odd.names.lookup (Str.ofString "_law_of") = some .globalImplicit := by decide +kernel
def b_law_odd_1 : MS := (sSet 1 (mFz (mLst (mCons (M.ret .non) (mCons (M.ret (.bl true)) (mCons (M.ret (.int 0)) (mCons (M.ret (.str (Str.ofString ""))) (mCons (M.ret (.str (Str.ofString "none"))) (mCons (M.ret (.str (Str.ofString "1..2"))) (mCons (mTup mNil) (mCons (mTup (mCons (M.ret (.int 1)) mNil)) (mCons (mFz (mLst (mCons (M.ret (.int 1)) (mCons (M.ret (.int 2)) mNil)))) (mCons (mTup (mCons (M.ret (.int 1)) (mCons (M.ret (.int 2)) (mCons (M.ret (.int 3)) mNil)))) (mCons (mTup (mCons (M.ret (.int 3)) (mCons (M.ret (.int 2)) mNil))) (mCons (mTup (mCons (M.ret (.bl true)) (mCons (M.ret (.int 2)) mNil))) (mCons (mTup (mCons (M.ret (.int 0)) (mCons (M.ret (.bl true)) mNil))) (mCons (mTup (mCons (M.ret (.int 1)) (mCons (M.ret .non) mNil))) mNil)))))))))))))))))
def b_law_odd_2 : MS := (sSet 1 (m2 dAdd (mVar 1) (mFz (mLst (mCons (mTup (mCons (M.ret (.int 1)) (mCons (m2 dAdd (m2 dPow (M.ret (.int 10)) (M.ret (.int 30))) (M.ret (.int 1))) mNil))) (mCons (mTup (mCons (m2 dSub (m1 dNeg (m2 dPow (M.ret (.int 10)) (M.ret (.int 30)))) (M.ret (.int 1))) (mCons (M.ret (.int 0)) mNil))) (mCons (mTup (mCons (m2 dPow (M.ret (.int 10)) (M.ret (.int 31))) (mCons (m2 dPow (M.ret (.int 10)) (M.ret (.int 31))) mNil))) (mCons (mTup (mCons (m1 dNeg (m2 dPow (M.ret (.int 10)) (M.ret (.int 31)))) (mCons (m1 dNeg (m2 dPow (M.ret (.int 10)) (M.ret (.int 31)))) mNil))) (mCons (mTup (mCons (M.ret (.str (Str.ofString "1"))) (mCons (M.ret (.str (Str.ofString "2"))) mNil))) (mCons (mTup (mCons (mTup (mCons (M.ret (.int 1)) (mCons (M.ret (.int 2)) mNil))) (mCons (M.ret (.int 3)) mNil))) mNil))))))))))
def b_law_odd_3 : MS := (sSet 1 (m2 dAdd (mVar 1) (mFz (mLst (mCons (mTup (mCons (M.ret (.str (Str.ofString "in"))) (mCons (M.ret (.bl true)) mNil))) (mCons (mTup (mCons (M.ret (.str (Str.ofString "in"))) (mCons (m2 dPow (M.ret (.int 10)) (M.ret (.int 31))) mNil))) (mCons (mTup (mCons (M.ret (.str (Str.ofString "out"))) (mCons (m1 dNeg (m2 dPow (M.ret (.int 10)) (M.ret (.int 31)))) mNil))) (mCons (mTup (mCons (M.ret (.str (Str.ofString "in"))) (mCons (m2 dAdd (m2 dPow (M.ret (.int 10)) (M.ret (.int 30))) (M.ret (.int 1))) mNil))) (mCons (mTup (mCons (M.ret (.str (Str.ofString "on"))) (mCons (M.ret (.int 1)) mNil))) (mCons (mTup (mCons (M.ret (.str (Str.ofString "in"))) mNil)) (mCons (mFz (mLst (mCons (M.ret (.str (Str.ofString "in"))) (mCons (M.ret (.int 1)) mNil)))) mNil)))))))))))
def b_law_odd_4 : MS := (sSet 1 (m2 dAdd (mVar 1) (mFz (mLst (mCons (mTup (mCons (M.ret (.str (Str.ofString "in"))) (mCons (M.ret (.int 1)) mNil))) (mCons (mTup (mCons (M.ret (.str (Str.ofString "out"))) (mCons (M.ret (.int 0)) mNil))) (mCons (mTup (mCons (M.ret (.int 1)) (mCons (M.ret (.int 2)) mNil))) (mCons (mTup (mCons (M.ret (.int 0)) (mCons (M.ret (.int 0)) mNil))) (mCons (mTup (mCons (m1 dNeg (m2 dPow (M.ret (.int 10)) (M.ret (.int 31)))) (mCons (m2 dPow (M.ret (.int 10)) (M.ret (.int 31))) mNil))) (mCons (mTup (mCons (M.ret (.str (Str.ofString "in"))) (mCons (M.ret (.str (Str.ofString "5"))) mNil))) (mCons (mTup (mCons (M.ret (.int 1)) (mCons (M.ret (.str (Str.ofString "in"))) mNil))) (mCons (mTup (mCons (M.ret (.str (Str.ofString "In"))) (mCons (M.ret (.int 1)) mNil))) mNil))))))))))))
def b_law_odd_5 : MS := (sRet (mCall m_law_of [] (rVar 0 (rVar 1 rNil))))
def b_law_odd : MS := (sSeq b_law_odd_1 (sSeq b_law_odd_2 (sSeq b_law_odd_3 (sSeq b_law_odd_4 b_law_odd_5))))
def m_law_odd : FM := mkF 1 2 b_law_odd
abbrev s_law_days : Stmt := (top 43)
def sc_law_days : Scope := mkSc [("bag", 0), ("large", 0), ("length", 0), ("_law_of", 3), ("_law_take", 3)]
def N_law_days : List Str := [(Str.ofString "bag"), (Str.ofString "large"), (Str.ofString "length")]
def P_law_days : List Str := [(Str.ofString "bag")]
def df_law_days : He.DefD := ⟨((Str.ofString "_law_days"), none), (Str.ofString "_law_days"), (Str.ofString "_law_days"), defArgs s_law_days, defBody s_law_days, sc_law_days, [], []⟩
theorem nd_law_days : N_law_days.Nodup := by decide +kernel
theorem so_law_days : FnScope N_law_days P_law_days sc_law_days := ⟨rfl, rfl, rfl, nd_law_days, rfl, by decide +kernel, by decide +kernel⟩
theorem n_law_days_bag : N_law_days[0]? = some (Str.ofString "bag") := rfl
theorem v_law_days_0_bag : Vis sc_law_days (Str.ofString "bag") := Or.inl (by decide +kernel)
theorem g_law_days_0_law_take : sc_law_days.names.lookup (Str.ofString "_law_take") = some .globalImplicit := by decide +kernel
theorem g_law_days_0_law_of : sc_law_days.names.lookup (Str.ofString "_law_of") = some .globalImplicit := by decide +kernel
theorem n_law_days_large : N_law_days[1]? = some (Str.ofString "large") := rfl
theorem l_law_days_0_large : Loc sc_law_days (Str.ofString "large") := Or.inl (by decide +kernel)
theorem v_law_days_0_large : Vis sc_law_days (Str.ofString "large") := Or.inl (by decide +kernel)
theorem n_law_days_length : N_law_days[2]? = some (Str.ofString "length") := rfl
theorem l_law_days_0_length : Loc sc_law_days (Str.ofString "length") := Or.inl (by decide +kernel)
theorem v_law_days_0_length : Vis sc_law_days (Str.ofString "length") := Or.inl (by decide +kernel)
def b_law_days : MS := (sSeq (sSet 1 (mCall m_law_of [] (rVar 0 (rCons (mFz (mLst (mCons (m2 dPow (M.ret (.int 10)) (M.ret (.int 6))) (mCons (M.ret (.int 999983)) (mCons (m2 dAdd (M.ret (.int 1)) (mCall m_law_take [] (rVar 0 (rCons (m2 dPow (M.ret (.int 10)) (M.ret (.int 6))) rNil)))) mNil))))) rNil)))) (sSeq (sSet 2 (mCall m_law_of [] (rVar 0 (rCons (mFz (mLst (mCons (M.ret (.int 1)) (mCons (M.ret (.int 2)) (mCons (M.ret (.int 3)) (mCons (M.ret (.int 7)) (mCons (M.ret (.int 24)) (mCons (M.ret (.int 60)) (mCons (M.ret (.int 90)) (mCons (M.ret (.int 360)) (mCons (M.ret (.int 1440)) (mCons (M.ret (.int 1440)) (mCons (m2 dAdd (M.ret (.int 1)) (mCall m_law_take [] (rVar 0 (rCons (M.ret (.int 1440)) rNil)))) (mCons (mVar 1) mNil)))))))))))))) rNil)))) (sRet (mTup (mCons (mVar 2) (mCons (mCall m_law_of [] (rVar 0 (rCons (mFz (mLst (mCons (M.ret (.int 0)) (mCons (M.ret (.int 0)) (mCons (m2 dSub (mVar 2) (M.ret (.int 1))) (mCons (mCall m_law_take [] (rVar 0 (rVar 2 rNil))) mNil)))))) rNil))) mNil))))))
def m_law_days : FM := mkF 1 3 b_law_days
abbrev s_law_overlap : Stmt := (top 44)
def sc_law_overlap : Scope := mkScM [("rows", 0), ("begin", 1), ("end", 1), ("sum", 3)] [("fast", "rows"), ("fast", "begin"), ("fast", "end"), ("fast", "left"), ("fast", "right")]
def sc_law_overlap_1 : Scope := mkSc [(".0", 0), ("left", 0), ("right", 0), ("max", 3), ("min", 3), ("int", 3), ("begin", 1), ("end", 1)]
def sc_law_overlap_1r : Scope := mkSc [(".0", 0), ("left", 0), ("right", 0), ("max", 3), ("min", 3), ("int", 3), ("begin", 2), ("end", 2)]
def N_law_overlap : List Str := [(Str.ofString "rows"), (Str.ofString "begin"), (Str.ofString "end"), (Str.ofString "left"), (Str.ofString "right")]
def P_law_overlap : List Str := [(Str.ofString "rows"), (Str.ofString "begin"), (Str.ofString "end")]
def df_law_overlap : He.DefD := ⟨((Str.ofString "_law_overlap"), none), (Str.ofString "_law_overlap"), (Str.ofString "_law_overlap"), defArgs s_law_overlap, defBody s_law_overlap, sc_law_overlap, [], []⟩
theorem nd_law_overlap : N_law_overlap.Nodup := by decide +kernel
theorem so_law_overlap : FnScope N_law_overlap P_law_overlap sc_law_overlap := ⟨rfl, rfl, rfl, nd_law_overlap, rfl, by decide +kernel, by decide +kernel⟩
theorem n_law_overlap_rows : N_law_overlap[0]? = some (Str.ofString "rows") := rfl
theorem v_law_overlap_0_rows : Vis sc_law_overlap (Str.ofString "rows") := Or.inl (by decide +kernel)
theorem n_law_overlap_right : N_law_overlap[4]? = some (Str.ofString "right") := rfl
theorem l_law_overlap_1_right : Loc sc_law_overlap_1 (Str.ofString "right") := Or.inl (by decide +kernel)
theorem il_law_overlap_1_right : sc_law_overlap_1.names.lookup (Str.ofString "right") = some .local := by decide +kernel
theorem n_law_overlap_left : N_law_overlap[3]? = some (Str.ofString "left") := rfl
theorem l_law_overlap_1_left : Loc sc_law_overlap_1 (Str.ofString "left") := Or.inl (by decide +kernel)
theorem il_law_overlap_1_left : sc_law_overlap_1.names.lookup (Str.ofString "left") = some .local := by decide +kernel
theorem v_law_overlap_1_right : Vis sc_law_overlap_1 (Str.ofString "right") := Or.inl (by decide +kernel)
theorem g_law_overlap_1_int : sc_law_overlap_1.names.lookup (Str.ofString "int") = some .globalImplicit := by decide +kernel
theorem n_law_overlap_end : N_law_overlap[2]? = some (Str.ofString "end") := rfl
theorem v_law_overlap_1_end : Vis sc_law_overlap_1 (Str.ofString "end") := Or.inr (Or.inl (by decide +kernel))
theorem g_law_overlap_1_min : sc_law_overlap_1.names.lookup (Str.ofString "min") = some .globalImplicit := by decide +kernel
theorem v_law_overlap_1_left : Vis sc_law_overlap_1 (Str.ofString "left") := Or.inl (by decide +kernel)
theorem n_law_overlap_begin : N_law_overlap[1]? = some (Str.ofString "begin") := rfl
theorem v_law_overlap_1_begin : Vis sc_law_overlap_1 (Str.ofString "begin") := Or.inr (Or.inl (by decide +kernel))
theorem g_law_overlap_1_max : sc_law_overlap_1.names.lookup (Str.ofString "max") = some .globalImplicit := by decide +kernel
theorem g_law_overlap_0_sum : sc_law_overlap.names.lookup (Str.ofString "sum") = some .globalImplicit := by decide +kernel
def b_law_overlap : MS := (sRet (mB gSum (mCons (mFz (mComp [3, 4] (gsTup 2 (gsCons (setD 3) (gsCons (setD 4) gsNil))) (M.ret true) (mB gMax2 (mCons (M.ret (.int 0)) (mCons (m2 dSub (mB gMin2 (mCons (mB gInt1s (mCons (mVar 2) mNil)) (mCons (mB gInt1s (mCons (mVar 4) mNil)) mNil))) (mB gMax2 (mCons (mB gInt1s (mCons (mVar 1) mNil)) (mCons (mB gInt1s (mCons (mVar 3) mNil)) mNil)))) mNil))) (mItemsX (mVar 0)))) mNil)))
def m_law_overlap : FM := mkF 3 5 b_law_overlap
abbrev s_law_ended : Stmt := (top 45)
def sc_law_ended : Scope := mkSc [("bag", 0), ("length", 0), ("shift", 0), ("start", 0), ("begin", 0), ("long", 0), ("_law_take", 3), ("_law_of", 3), ("_law_number", 3), ("max", 3), ("int", 3), ("min", 3)]
def N_law_ended : List Str := [(Str.ofString "bag"), (Str.ofString "length"), (Str.ofString "shift"), (Str.ofString "start"), (Str.ofString "begin"), (Str.ofString "long")]
def P_law_ended : List Str := [(Str.ofString "bag"), (Str.ofString "length"), (Str.ofString "shift")]
def df_law_ended : He.DefD := ⟨((Str.ofString "_law_ended"), none), (Str.ofString "_law_ended"), (Str.ofString "_law_ended"), defArgs s_law_ended, defBody s_law_ended, sc_law_ended, [], []⟩
theorem nd_law_ended : N_law_ended.Nodup := by decide +kernel
theorem so_law_ended : FnScope N_law_ended P_law_ended sc_law_ended := ⟨rfl, rfl, rfl, nd_law_ended, rfl, by decide +kernel, by decide +kernel⟩
theorem n_law_ended_shift : N_law_ended[2]? = some (Str.ofString "shift") := rfl
theorem v_law_ended_0_shift : Vis sc_law_ended (Str.ofString "shift") := Or.inl (by decide +kernel)
theorem n_law_ended_bag : N_law_ended[0]? = some (Str.ofString "bag") := rfl
theorem v_law_ended_0_bag : Vis sc_law_ended (Str.ofString "bag") := Or.inl (by decide +kernel)
theorem g_law_ended_0_law_take : sc_law_ended.names.lookup (Str.ofString "_law_take") = some .globalImplicit := by decide +kernel
theorem n_law_ended_length : N_law_ended[1]? = some (Str.ofString "length") := rfl
theorem v_law_ended_0_length : Vis sc_law_ended (Str.ofString "length") := Or.inl (by decide +kernel)
theorem n_law_ended_start : N_law_ended[3]? = some (Str.ofString "start") := rfl
theorem l_law_ended_0_start : Loc sc_law_ended (Str.ofString "start") := Or.inl (by decide +kernel)
theorem g_law_ended_0_law_number : sc_law_ended.names.lookup (Str.ofString "_law_number") = some .globalImplicit := by decide +kernel
theorem v_law_ended_0_start : Vis sc_law_ended (Str.ofString "start") := Or.inl (by decide +kernel)
theorem g_law_ended_0_law_of : sc_law_ended.names.lookup (Str.ofString "_law_of") = some .globalImplicit := by decide +kernel
theorem n_law_ended_begin : N_law_ended[4]? = some (Str.ofString "begin") := rfl
theorem l_law_ended_0_begin : Loc sc_law_ended (Str.ofString "begin") := Or.inl (by decide +kernel)
theorem n_law_ended_long : N_law_ended[5]? = some (Str.ofString "long") := rfl
theorem l_law_ended_0_long : Loc sc_law_ended (Str.ofString "long") := Or.inl (by decide +kernel)
theorem v_law_ended_0_begin : Vis sc_law_ended (Str.ofString "begin") := Or.inl (by decide +kernel)
theorem v_law_ended_0_long : Vis sc_law_ended (Str.ofString "long") := Or.inl (by decide +kernel)
theorem g_law_ended_0_min : sc_law_ended.names.lookup (Str.ofString "min") = some .globalImplicit := by decide +kernel
theorem g_law_ended_0_int : sc_law_ended.names.lookup (Str.ofString "int") = some .globalImplicit := by decide +kernel
theorem g_law_ended_0_max : sc_law_ended.names.lookup (Str.ofString "max") = some .globalImplicit := by decide +kernel
def b_law_ended_1 : MS := (sSet 3 (m2 dAdd (mVar 2) (m2 dMulI (m2 dSub (mCall m_law_take [] (rVar 0 (rCons (M.ret (.int 9)) rNil))) (M.ret (.int 4))) (mVar 1))))
def b_law_ended_2 : MS := (sSet 4 (mCall m_law_of [] (rVar 0 (rCons (mFz (mLst (mCons (mVar 3) (mCons (m2 dAdd (mVar 3) (mCall m_law_take [] (rVar 0 (rVar 1 rNil)))) (mCons (m2 dSub (mVar 3) (M.ret (.int 1))) (mCons (mCall m_law_number [] (rVar 0 rNil)) (mCons (m2 dSub (m2 dPow (M.ret (.int 10)) (M.ret (.int 30))) (mCall m_law_take [] (rVar 0 (rCons (M.ret (.int 5)) rNil)))) (mCons (m1 dNeg (m2 dPow (M.ret (.int 10)) (M.ret (.int 30)))) mNil)))))))) rNil))))
def b_law_ended_3 : MS := (sSet 5 (mCall m_law_of [] (rVar 0 (rCons (mFz (mLst (mCons (M.ret (.int 0)) (mCons (M.ret (.int 1)) (mCons (mVar 1) (mCons (m2 dMulI (M.ret (.int 2)) (mVar 1)) (mCons (mCall m_law_take [] (rVar 0 (rCons (m2 dAdd (m2 dMulI (M.ret (.int 3)) (mVar 1)) (M.ret (.int 2))) rNil))) (mCons (m2 dSub (mVar 1) (M.ret (.int 1))) (mCons (m2 dAdd (m2 dMulI (M.ret (.int 5)) (mVar 1)) (M.ret (.int 1))) mNil))))))))) rNil))))
def b_law_ended_4 : MS := (sRet (mTup (mCons (mVar 4) (mCons (mB gMax2 (mCons (mB gInt1s (mCons (mVar 4) mNil)) (mCons (mB gInt1s (mCons (mB gMin2 (mCons (m2 dPow (M.ret (.int 10)) (M.ret (.int 30))) (mCons (m2 dAdd (mVar 4) (mVar 5)) mNil))) mNil)) mNil))) mNil))))
def b_law_ended : MS := (sSeq b_law_ended_1 (sSeq b_law_ended_2 (sSeq b_law_ended_3 b_law_ended_4)))
def m_law_ended : FM := mkF 3 6 b_law_ended
abbrev s_law_cells : Stmt := (top 46)
def sc_law_cells : Scope := mkSc [("rows", 0), ("begin", 0), ("length", 0), ("columns", 0), ("wide", 0), ("found", 0), ("k", 0), ("held", 0), ("range", 3), ("_law_overlap", 3)]
def N_law_cells : List Str := [(Str.ofString "rows"), (Str.ofString "begin"), (Str.ofString "length"), (Str.ofString "columns"), (Str.ofString "wide"), (Str.ofString "found"), (Str.ofString "k"), (Str.ofString "held")]
def P_law_cells : List Str := [(Str.ofString "rows"), (Str.ofString "begin"), (Str.ofString "length"), (Str.ofString "columns")]
def df_law_cells : He.DefD := ⟨((Str.ofString "_law_cells"), none), (Str.ofString "_law_cells"), (Str.ofString "_law_cells"), defArgs s_law_cells, defBody s_law_cells, sc_law_cells, [], []⟩
theorem nd_law_cells : N_law_cells.Nodup := by decide +kernel
theorem so_law_cells : FnScope N_law_cells P_law_cells sc_law_cells := ⟨rfl, rfl, rfl, nd_law_cells, rfl, by decide +kernel, by decide +kernel⟩
theorem n_law_cells_length : N_law_cells[2]? = some (Str.ofString "length") := rfl
theorem v_law_cells_0_length : Vis sc_law_cells (Str.ofString "length") := Or.inl (by decide +kernel)
theorem n_law_cells_columns : N_law_cells[3]? = some (Str.ofString "columns") := rfl
theorem v_law_cells_0_columns : Vis sc_law_cells (Str.ofString "columns") := Or.inl (by decide +kernel)
theorem n_law_cells_wide : N_law_cells[4]? = some (Str.ofString "wide") := rfl
theorem n_law_cells_found : N_law_cells[5]? = some (Str.ofString "found") := rfl
theorem il_law_cells_0_wide : sc_law_cells.names.lookup (Str.ofString "wide") = some .local := by decide +kernel
theorem il_law_cells_0_found : sc_law_cells.names.lookup (Str.ofString "found") = some .local := by decide +kernel
theorem g_law_cells_0_range : sc_law_cells.names.lookup (Str.ofString "range") = some .globalImplicit := by decide +kernel
theorem n_law_cells_k : N_law_cells[6]? = some (Str.ofString "k") := rfl
theorem l_law_cells_0_k : Loc sc_law_cells (Str.ofString "k") := Or.inl (by decide +kernel)
theorem n_law_cells_begin : N_law_cells[1]? = some (Str.ofString "begin") := rfl
theorem v_law_cells_0_begin : Vis sc_law_cells (Str.ofString "begin") := Or.inl (by decide +kernel)
theorem v_law_cells_0_k : Vis sc_law_cells (Str.ofString "k") := Or.inl (by decide +kernel)
theorem v_law_cells_0_wide : Vis sc_law_cells (Str.ofString "wide") := Or.inl (by decide +kernel)
theorem n_law_cells_rows : N_law_cells[0]? = some (Str.ofString "rows") := rfl
theorem v_law_cells_0_rows : Vis sc_law_cells (Str.ofString "rows") := Or.inl (by decide +kernel)
theorem g_law_cells_0_law_overlap : sc_law_cells.names.lookup (Str.ofString "_law_overlap") = some .globalImplicit := by decide +kernel
theorem n_law_cells_held : N_law_cells[7]? = some (Str.ofString "held") := rfl
theorem l_law_cells_0_held : Loc sc_law_cells (Str.ofString "held") := Or.inl (by decide +kernel)
theorem v_law_cells_0_found : Vis sc_law_cells (Str.ofString "found") := Or.inl (by decide +kernel)
theorem v_law_cells_0_held : Vis sc_law_cells (Str.ofString "held") := Or.inl (by decide +kernel)
theorem l_law_cells_0_found : Loc sc_law_cells (Str.ofString "found") := Or.inl (by decide +kernel)
def b_law_cells : MS := (sSeq (sPar 4 5 (mCons (m2 dFdiv (mVar 2) (mVar 3)) (mCons (M.ret (.str (Str.ofString ""))) mNil))) (sSeq (sFor (setD 6) (mRng rng1 (mCons (mVar 3) mNil)) (sSeq (sSet 7 (mCall m_law_overlap [] (rVar 0 (rCons (m2 dAdd (mVar 1) (m2 dMulI (mVar 6) (mVar 4))) (rCons (m2 dAdd (mVar 1) (m2 dMulI (m2 dAdd (mVar 6) (M.ret (.int 1))) (mVar 4))) rNil))))) (sSet 5 (m2 dAdd (mVar 5) (mIf (mT (m2 dEq (mVar 7) (M.ret (.int 0)))) (M.ret (.str (Str.ofString "."))) (mIf (mT (m2 dEq (mVar 7) (mVar 4))) (M.ret (.str (Str.ofString "#"))) (M.ret (.str (Str.ofString "+"))))))))) (sRetV 5)))
def m_law_cells : FM := mkF 4 8 b_law_cells
abbrev s_law_columns : Stmt := (top 47)
def sc_law_columns : Scope := mkScM [("bag", 0), ("length", 1), ("some", 0), ("range", 3), ("_law_of", 3)] [("fast", "bag"), ("fast", "length"), ("fast", "k"), ("fast", "some")]
def sc_law_columns_1 : Scope := mkSc [(".0", 0), ("k", 0), ("length", 1)]
def sc_law_columns_1r : Scope := mkSc [(".0", 0), ("k", 0), ("length", 2)]
def N_law_columns : List Str := [(Str.ofString "bag"), (Str.ofString "length"), (Str.ofString "some"), (Str.ofString "k")]
def P_law_columns : List Str := [(Str.ofString "bag"), (Str.ofString "length")]
def df_law_columns : He.DefD := ⟨((Str.ofString "_law_columns"), none), (Str.ofString "_law_columns"), (Str.ofString "_law_columns"), defArgs s_law_columns, defBody s_law_columns, sc_law_columns, [], []⟩
theorem nd_law_columns : N_law_columns.Nodup := by decide +kernel
theorem so_law_columns : FnScope N_law_columns P_law_columns sc_law_columns := ⟨rfl, rfl, rfl, nd_law_columns, rfl, by decide +kernel, by decide +kernel⟩
theorem g_law_columns_0_range : sc_law_columns.names.lookup (Str.ofString "range") = some .globalImplicit := by decide +kernel
theorem n_law_columns_k : N_law_columns[3]? = some (Str.ofString "k") := rfl
theorem l_law_columns_1_k : Loc sc_law_columns_1 (Str.ofString "k") := Or.inl (by decide +kernel)
theorem il_law_columns_1_k : sc_law_columns_1.names.lookup (Str.ofString "k") = some .local := by decide +kernel
theorem n_law_columns_length : N_law_columns[1]? = some (Str.ofString "length") := rfl
theorem v_law_columns_1_length : Vis sc_law_columns_1 (Str.ofString "length") := Or.inr (Or.inl (by decide +kernel))
theorem v_law_columns_1_k : Vis sc_law_columns_1 (Str.ofString "k") := Or.inl (by decide +kernel)
theorem n_law_columns_some : N_law_columns[2]? = some (Str.ofString "some") := rfl
theorem il_law_columns_0_some : sc_law_columns.names.lookup (Str.ofString "some") = some .local := by decide +kernel
theorem v_law_columns_0_some : Vis sc_law_columns (Str.ofString "some") := Or.inl (by decide +kernel)
theorem n_law_columns_bag : N_law_columns[0]? = some (Str.ofString "bag") := rfl
theorem v_law_columns_0_bag : Vis sc_law_columns (Str.ofString "bag") := Or.inl (by decide +kernel)
theorem g_law_columns_0_law_of : sc_law_columns.names.lookup (Str.ofString "_law_of") = some .globalImplicit := by decide +kernel
def b_law_columns : MS := (sSeq (sSet 2 (mFz (mComp [3] (setD 3) (mT (m2 dEq (m2 dMod (mVar 1) (mVar 3)) (M.ret (.int 0)))) (mVar 3) (mRng rng2 (mCons (M.ret (.int 1)) (mCons (M.ret (.int 121)) mNil)))))) (sRet (mCall m_law_of [] (rVar 0 (rVar 2 rNil)))))
def m_law_columns : FM := mkF 2 4 b_law_columns
abbrev s_law_about : Stmt := (top 48)
def sc_law_about : Scope := mkSc [("bag", 0), ("length", 0), ("shift", 0), ("road", 0), ("span", 0), ("start", 0), ("long", 0), ("_law_take", 3), ("_law_ended", 3), ("_law_stretch", 3), ("_law_of", 3)]
def N_law_about : List Str := [(Str.ofString "bag"), (Str.ofString "length"), (Str.ofString "shift"), (Str.ofString "road"), (Str.ofString "span"), (Str.ofString "start"), (Str.ofString "long")]
def P_law_about : List Str := [(Str.ofString "bag"), (Str.ofString "length"), (Str.ofString "shift")]
def df_law_about : He.DefD := ⟨((Str.ofString "_law_about"), none), (Str.ofString "_law_about"), (Str.ofString "_law_about"), defArgs s_law_about, defBody s_law_about, sc_law_about, [], []⟩
theorem nd_law_about : N_law_about.Nodup := by decide +kernel
theorem so_law_about : FnScope N_law_about P_law_about sc_law_about := ⟨rfl, rfl, rfl, nd_law_about, rfl, by decide +kernel, by decide +kernel⟩
theorem n_law_about_shift : N_law_about[2]? = some (Str.ofString "shift") := rfl
theorem v_law_about_0_shift : Vis sc_law_about (Str.ofString "shift") := Or.inl (by decide +kernel)
theorem n_law_about_length : N_law_about[1]? = some (Str.ofString "length") := rfl
theorem v_law_about_0_length : Vis sc_law_about (Str.ofString "length") := Or.inl (by decide +kernel)
theorem n_law_about_bag : N_law_about[0]? = some (Str.ofString "bag") := rfl
theorem v_law_about_0_bag : Vis sc_law_about (Str.ofString "bag") := Or.inl (by decide +kernel)
theorem g_law_about_0_law_ended : sc_law_about.names.lookup (Str.ofString "_law_ended") = some .globalImplicit := by decide +kernel
theorem g_law_about_0_law_take : sc_law_about.names.lookup (Str.ofString "_law_take") = some .globalImplicit := by decide +kernel
theorem n_law_about_road : N_law_about[3]? = some (Str.ofString "road") := rfl
theorem n_law_about_span : N_law_about[4]? = some (Str.ofString "span") := rfl
theorem il_law_about_0_road : sc_law_about.names.lookup (Str.ofString "road") = some .local := by decide +kernel
theorem il_law_about_0_span : sc_law_about.names.lookup (Str.ofString "span") = some .local := by decide +kernel
theorem v_law_about_0_road : Vis sc_law_about (Str.ofString "road") := Or.inl (by decide +kernel)
theorem g_law_about_0_law_stretch : sc_law_about.names.lookup (Str.ofString "_law_stretch") = some .globalImplicit := by decide +kernel
theorem n_law_about_start : N_law_about[5]? = some (Str.ofString "start") := rfl
theorem l_law_about_0_start : Loc sc_law_about (Str.ofString "start") := Or.inl (by decide +kernel)
theorem g_law_about_0_law_of : sc_law_about.names.lookup (Str.ofString "_law_of") = some .globalImplicit := by decide +kernel
theorem n_law_about_long : N_law_about[6]? = some (Str.ofString "long") := rfl
theorem l_law_about_0_long : Loc sc_law_about (Str.ofString "long") := Or.inl (by decide +kernel)
theorem v_law_about_0_span : Vis sc_law_about (Str.ofString "span") := Or.inl (by decide +kernel)
theorem v_law_about_0_start : Vis sc_law_about (Str.ofString "start") := Or.inl (by decide +kernel)
theorem v_law_about_0_long : Vis sc_law_about (Str.ofString "long") := Or.inl (by decide +kernel)
def b_law_about_1 : MS := (sPar 3 4 (mCons (mCall m_law_take [] (rVar 0 (rCons (M.ret (.int 6)) rNil))) (mCons (mCall m_law_ended [] (rVar 0 (rVar 1 (rVar 2 rNil)))) mNil)))
def b_law_about_2 : MS := (sIf (mT (m2 dEq (mVar 3) (M.ret (.int 0)))) (sRet (mCall m_law_stretch [] (rVar 0 rNil))) (fun ev => some (.nx ev)))
def b_law_about_3 : MS := (sSet 5 (m2 dAdd (m2 dAdd (mVar 2) (m2 dMulI (m2 dSub (mCall m_law_take [] (rVar 0 (rCons (M.ret (.int 9)) rNil))) (M.ret (.int 4))) (mVar 1))) (mCall m_law_take [] (rVar 0 (rVar 1 rNil)))))
def b_law_about_4 : MS := (sSet 6 (mCall m_law_of [] (rVar 0 (rCons (mFz (mLst (mCons (mCall m_law_take [] (rVar 0 (rCons (m2 dAdd (mVar 1) (M.ret (.int 1))) rNil))) (mCons (mCall m_law_take [] (rVar 0 (rCons (M.ret (.int 4)) rNil))) (mCons (mCall m_law_take [] (rVar 0 (rCons (m2 dMulI (M.ret (.int 6)) (mVar 1)) rNil))) mNil))))) rNil))))
def b_law_about_5 : MS := (sRet (mIf (mT (m2 dEq (mVar 3) (M.ret (.int 1)))) (mVar 4) (mTup (mCons (mVar 5) (mCons (m2 dAdd (mVar 5) (mVar 6)) mNil)))))
def b_law_about : MS := (sSeq b_law_about_1 (sSeq b_law_about_2 (sSeq b_law_about_3 (sSeq b_law_about_4 b_law_about_5))))
def m_law_about : FM := mkF 3 7 b_law_about
abbrev s_law_told : Stmt := (top 49)
def sc_law_told : Scope := mkSc [("days", 0), ("spans", 0), ("number", 0), ("columns", 0), ("told", 0), ("e", 0), ("BadItem", 3), ("BadColumns", 3), ("TooFar", 3)]
def N_law_told : List Str := [(Str.ofString "days"), (Str.ofString "spans"), (Str.ofString "number"), (Str.ofString "columns"), (Str.ofString "told"), (Str.ofString "e")]
def P_law_told : List Str := [(Str.ofString "days"), (Str.ofString "spans"), (Str.ofString "number"), (Str.ofString "columns")]
def df_law_told : He.DefD := ⟨((Str.ofString "_law_told"), none), (Str.ofString "_law_told"), (Str.ofString "_law_told"), defArgs s_law_told, defBody s_law_told, sc_law_told, [], []⟩
theorem nd_law_told : N_law_told.Nodup := by decide +kernel
theorem so_law_told : FnScope N_law_told P_law_told sc_law_told := ⟨rfl, rfl, rfl, nd_law_told, rfl, by decide +kernel, by decide +kernel⟩
theorem n_law_told_columns : N_law_told[3]? = some (Str.ofString "columns") := rfl
theorem v_law_told_0_columns : Vis sc_law_told (Str.ofString "columns") := Or.inl (by decide +kernel)
theorem n_law_told_days : N_law_told[0]? = some (Str.ofString "days") := rfl
theorem v_law_told_0_days : Vis sc_law_told (Str.ofString "days") := Or.inl (by decide +kernel)
theorem n_law_told_number : N_law_told[2]? = some (Str.ofString "number") := rfl
theorem v_law_told_0_number : Vis sc_law_told (Str.ofString "number") := Or.inl (by decide +kernel)
theorem n_law_told_spans : N_law_told[1]? = some (Str.ofString "spans") := rfl
theorem v_law_told_0_spans : Vis sc_law_told (Str.ofString "spans") := Or.inl (by decide +kernel)
theorem n_law_told_told : N_law_told[4]? = some (Str.ofString "told") := rfl
theorem l_law_told_0_told : Loc sc_law_told (Str.ofString "told") := Or.inl (by decide +kernel)
theorem n_law_told_e : N_law_told[5]? = some (Str.ofString "e") := rfl
theorem v_law_told_0_e : Vis sc_law_told (Str.ofString "e") := Or.inl (by decide +kernel)
theorem g_law_told_0_TooFar : sc_law_told.names.lookup (Str.ofString "TooFar") = some .globalImplicit := by decide +kernel
theorem g_law_told_0_BadColumns : sc_law_told.names.lookup (Str.ofString "BadColumns") = some .globalImplicit := by decide +kernel
theorem g_law_told_0_BadItem : sc_law_told.names.lookup (Str.ofString "BadItem") = some .globalImplicit := by decide +kernel
theorem il_law_told_0_e : sc_law_told.names.lookup (Str.ofString "e") = some .local := by decide +kernel
theorem v_law_told_0_told : Vis sc_law_told (Str.ofString "told") := Or.inl (by decide +kernel)
def b_law_told : MS := (sSeq (sTryL xt 5 (sSet 4 (mIf (mT (m2 dEq (mVar 3) (M.ret (.int 24)))) (mMeth (fun r => some (rvD r)) "drawn" [⟨"Days", m_Days_drawn, [.inl 0, .inl 1, .inl 2, .inr (.int 24)]⟩] (2 + 0) (mArV 0) (rVar 1 (rVar 2 rNil))) (mMeth (fun r => some (rvD r)) "drawn" [⟨"Days", m_Days_drawn, [.inl 0, .inl 1, .inl 2, .inl 3]⟩] (3 + 0) (mArV 0) (rVar 1 (rVar 2 (rVar 3 rNil)))))) [("BadItem", fun e => (sRet (mTup (mCons (M.ret (.str (Str.ofString "item"))) (mCons (mXf "index" e) mNil))))), ("BadColumns", fun e => (sRet (mTup (mCons (M.ret (.str (Str.ofString "columns"))) (mCons (mXf "columns" e) mNil))))), ("TooFar", fun e => (sRet (mTup (mCons (M.ret (.str (Str.ofString "far"))) (mCons (mXf "edge" e) mNil)))))]) (sRetV 4))
def m_law_told : FM := mkF 4 6 b_law_told
abbrev s_law_is_fit : Stmt := (top 50)
def sc_law_is_fit : Scope := mkSc [("columns", 0), ("length", 0), ("isinstance", 3), ("int", 3), ("bool", 3)]
def N_law_is_fit : List Str := [(Str.ofString "columns"), (Str.ofString "length")]
def P_law_is_fit : List Str := [(Str.ofString "columns"), (Str.ofString "length")]
def df_law_is_fit : He.DefD := ⟨((Str.ofString "_law_is_fit"), none), (Str.ofString "_law_is_fit"), (Str.ofString "_law_is_fit"), defArgs s_law_is_fit, defBody s_law_is_fit, sc_law_is_fit, [], []⟩
theorem nd_law_is_fit : N_law_is_fit.Nodup := by decide +kernel
theorem so_law_is_fit : FnScope N_law_is_fit P_law_is_fit sc_law_is_fit := ⟨rfl, rfl, rfl, nd_law_is_fit, rfl, by decide +kernel, by decide +kernel⟩
theorem g_law_is_fit_0_int : sc_law_is_fit.names.lookup (Str.ofString "int") = some .globalImplicit := by decide +kernel
theorem n_law_is_fit_columns : N_law_is_fit[0]? = some (Str.ofString "columns") := rfl
theorem v_law_is_fit_0_columns : Vis sc_law_is_fit (Str.ofString "columns") := Or.inl (by decide +kernel)
theorem g_law_is_fit_0_isinstance : sc_law_is_fit.names.lookup (Str.ofString "isinstance") = some .globalImplicit := by decide +kernel
theorem g_law_is_fit_0_bool : sc_law_is_fit.names.lookup (Str.ofString "bool") = some .globalImplicit := by decide +kernel
theorem n_law_is_fit_length : N_law_is_fit[1]? = some (Str.ofString "length") := rfl
theorem v_law_is_fit_0_length : Vis sc_law_is_fit (Str.ofString "length") := Or.inl (by decide +kernel)
def b_law_is_fit : MS := (sSeq (sIf (mTOr (mTNot (mTru (mB (gIsi kt ins) (mCons (mVar 0) (mCons (M.ret (.ty "int")) mNil))))) (mTru (mB (gIsi kt ins) (mCons (mVar 0) (mCons (M.ret (.ty "bool")) mNil))))) (sRet (M.ret (.bl false))) (fun ev => some (.nx ev))) (sRet (mAnd (mChain dLe dLe (M.ret (.int 1)) (mVar 0) (M.ret (.int 120))) (m2 dEq (m2 dMod (mVar 1) (mVar 0)) (M.ret (.int 0))))))
def m_law_is_fit : FM := mkF 2 2 b_law_is_fit
abbrev s_law_due : Stmt := (top 51)
def sc_law_due : Scope := mkSc [("spans", 0), ("number", 0), ("columns", 0), ("length", 0), ("shift", 0), ("k", 0), ("begin", 0), ("edge", 0), ("range", 3), ("len", 3), ("_law_is_stretch", 3), ("_law_is_fit", 3), ("_law_is_near", 3), ("_law_cells", 3), ("_law_union", 3)]
def N_law_due : List Str := [(Str.ofString "spans"), (Str.ofString "number"), (Str.ofString "columns"), (Str.ofString "length"), (Str.ofString "shift"), (Str.ofString "k"), (Str.ofString "begin"), (Str.ofString "edge")]
def P_law_due : List Str := [(Str.ofString "spans"), (Str.ofString "number"), (Str.ofString "columns"), (Str.ofString "length"), (Str.ofString "shift")]
def df_law_due : He.DefD := ⟨((Str.ofString "_law_due"), none), (Str.ofString "_law_due"), (Str.ofString "_law_due"), defArgs s_law_due, defBody s_law_due, sc_law_due, [], []⟩
theorem nd_law_due : N_law_due.Nodup := by decide +kernel
theorem so_law_due : FnScope N_law_due P_law_due sc_law_due := ⟨rfl, rfl, rfl, nd_law_due, rfl, by decide +kernel, by decide +kernel⟩
theorem g_law_due_0_len : sc_law_due.names.lookup (Str.ofString "len") = some .globalImplicit := by decide +kernel
theorem n_law_due_spans : N_law_due[0]? = some (Str.ofString "spans") := rfl
theorem v_law_due_0_spans : Vis sc_law_due (Str.ofString "spans") := Or.inl (by decide +kernel)
theorem g_law_due_0_range : sc_law_due.names.lookup (Str.ofString "range") = some .globalImplicit := by decide +kernel
theorem n_law_due_k : N_law_due[5]? = some (Str.ofString "k") := rfl
theorem l_law_due_0_k : Loc sc_law_due (Str.ofString "k") := Or.inl (by decide +kernel)
theorem v_law_due_0_k : Vis sc_law_due (Str.ofString "k") := Or.inl (by decide +kernel)
theorem g_law_due_0_law_is_stretch : sc_law_due.names.lookup (Str.ofString "_law_is_stretch") = some .globalImplicit := by decide +kernel
theorem n_law_due_length : N_law_due[3]? = some (Str.ofString "length") := rfl
theorem v_law_due_0_length : Vis sc_law_due (Str.ofString "length") := Or.inl (by decide +kernel)
theorem n_law_due_columns : N_law_due[2]? = some (Str.ofString "columns") := rfl
theorem v_law_due_0_columns : Vis sc_law_due (Str.ofString "columns") := Or.inl (by decide +kernel)
theorem g_law_due_0_law_is_fit : sc_law_due.names.lookup (Str.ofString "_law_is_fit") = some .globalImplicit := by decide +kernel
theorem n_law_due_shift : N_law_due[4]? = some (Str.ofString "shift") := rfl
theorem v_law_due_0_shift : Vis sc_law_due (Str.ofString "shift") := Or.inl (by decide +kernel)
theorem n_law_due_number : N_law_due[1]? = some (Str.ofString "number") := rfl
theorem v_law_due_0_number : Vis sc_law_due (Str.ofString "number") := Or.inl (by decide +kernel)
theorem n_law_due_begin : N_law_due[6]? = some (Str.ofString "begin") := rfl
theorem l_law_due_0_begin : Loc sc_law_due (Str.ofString "begin") := Or.inl (by decide +kernel)
theorem v_law_due_0_begin : Vis sc_law_due (Str.ofString "begin") := Or.inl (by decide +kernel)
theorem n_law_due_edge : N_law_due[7]? = some (Str.ofString "edge") := rfl
theorem l_law_due_0_edge : Loc sc_law_due (Str.ofString "edge") := Or.inl (by decide +kernel)
theorem v_law_due_0_edge : Vis sc_law_due (Str.ofString "edge") := Or.inl (by decide +kernel)
theorem g_law_due_0_law_is_near : sc_law_due.names.lookup (Str.ofString "_law_is_near") = some .globalImplicit := by decide +kernel
theorem g_law_due_0_law_union : sc_law_due.names.lookup (Str.ofString "_law_union") = some .globalImplicit := by decide +kernel
theorem g_law_due_0_law_cells : sc_law_due.names.lookup (Str.ofString "_law_cells") = some .globalImplicit := by decide +kernel
def b_law_due_1 : MS := (sFor (setD 5) (mRng rng1 (mCons (mBN gLen 0) mNil)) (sIf (mTNot (mTru (mCall m_law_is_stretch [] (rCons (mIxN 0 (mVar 5)) rNil)))) (sRet (mTup (mCons (M.ret (.str (Str.ofString "item"))) (mCons (mVar 5) mNil)))) (fun ev => some (.nx ev))))
def b_law_due_2 : MS := (sIf (mTNot (mTru (mCall m_law_is_fit [] (rVar 2 (rVar 3 rNil))))) (sRet (mTup (mCons (M.ret (.str (Str.ofString "columns"))) (mCons (mVar 2) mNil)))) (fun ev => some (.nx ev)))
def b_law_due_3 : MS := (sSet 6 (m2 dAdd (mVar 4) (m2 dMulI (mVar 1) (mVar 3))))
def b_law_due_4 : MS := (sFor (setD 7) (mItems (mTup (mCons (mVar 6) (mCons (m2 dAdd (mVar 6) (mVar 3)) mNil)))) (sIf (mTNot (mTru (mCall m_law_is_near [] (rVar 7 rNil)))) (sRet (mTup (mCons (M.ret (.str (Str.ofString "far"))) (mCons (mVar 7) mNil)))) (fun ev => some (.nx ev))))
def b_law_due_5 : MS := (sRet (mCall m_law_cells [] (rCons (mCall m_law_union [] (rVar 0 (rCons (M.ret (.bl false)) rNil))) (rVar 6 (rVar 3 (rVar 2 rNil))))))
def b_law_due : MS := (sSeq b_law_due_1 (sSeq b_law_due_2 (sSeq b_law_due_3 (sSeq b_law_due_4 b_law_due_5))))
def m_law_due : FM := mkF 5 8 b_law_due
abbrev s_law_by_columns : Stmt := (top 52)
def sc_law_by_columns : Scope := mkSc [("bag", 0), ("begin", 0), ("wide", 0), ("columns", 0), ("one", 0), ("two", 0), ("start", 0), ("_law_take", 3), ("min", 3), ("int", 3), ("max", 3)]
def N_law_by_columns : List Str := [(Str.ofString "bag"), (Str.ofString "begin"), (Str.ofString "wide"), (Str.ofString "columns"), (Str.ofString "one"), (Str.ofString "two"), (Str.ofString "start")]
def P_law_by_columns : List Str := [(Str.ofString "bag"), (Str.ofString "begin"), (Str.ofString "wide"), (Str.ofString "columns")]
def df_law_by_columns : He.DefD := ⟨((Str.ofString "_law_by_columns"), none), (Str.ofString "_law_by_columns"), (Str.ofString "_law_by_columns"), defArgs s_law_by_columns, defBody s_law_by_columns, sc_law_by_columns, [], []⟩
theorem nd_law_by_columns : N_law_by_columns.Nodup := by decide +kernel
theorem so_law_by_columns : FnScope N_law_by_columns P_law_by_columns sc_law_by_columns := ⟨rfl, rfl, rfl, nd_law_by_columns, rfl, by decide +kernel, by decide +kernel⟩
theorem n_law_by_columns_columns : N_law_by_columns[3]? = some (Str.ofString "columns") := rfl
theorem v_law_by_columns_0_columns : Vis sc_law_by_columns (Str.ofString "columns") := Or.inl (by decide +kernel)
theorem n_law_by_columns_bag : N_law_by_columns[0]? = some (Str.ofString "bag") := rfl
theorem v_law_by_columns_0_bag : Vis sc_law_by_columns (Str.ofString "bag") := Or.inl (by decide +kernel)
theorem g_law_by_columns_0_law_take : sc_law_by_columns.names.lookup (Str.ofString "_law_take") = some .globalImplicit := by decide +kernel
theorem n_law_by_columns_one : N_law_by_columns[4]? = some (Str.ofString "one") := rfl
theorem n_law_by_columns_two : N_law_by_columns[5]? = some (Str.ofString "two") := rfl
theorem il_law_by_columns_0_one : sc_law_by_columns.names.lookup (Str.ofString "one") = some .local := by decide +kernel
theorem il_law_by_columns_0_two : sc_law_by_columns.names.lookup (Str.ofString "two") = some .local := by decide +kernel
theorem n_law_by_columns_begin : N_law_by_columns[1]? = some (Str.ofString "begin") := rfl
theorem v_law_by_columns_0_begin : Vis sc_law_by_columns (Str.ofString "begin") := Or.inl (by decide +kernel)
theorem v_law_by_columns_0_two : Vis sc_law_by_columns (Str.ofString "two") := Or.inl (by decide +kernel)
theorem g_law_by_columns_0_int : sc_law_by_columns.names.lookup (Str.ofString "int") = some .globalImplicit := by decide +kernel
theorem v_law_by_columns_0_one : Vis sc_law_by_columns (Str.ofString "one") := Or.inl (by decide +kernel)
theorem g_law_by_columns_0_min : sc_law_by_columns.names.lookup (Str.ofString "min") = some .globalImplicit := by decide +kernel
theorem n_law_by_columns_wide : N_law_by_columns[2]? = some (Str.ofString "wide") := rfl
theorem v_law_by_columns_0_wide : Vis sc_law_by_columns (Str.ofString "wide") := Or.inl (by decide +kernel)
theorem n_law_by_columns_start : N_law_by_columns[6]? = some (Str.ofString "start") := rfl
theorem l_law_by_columns_0_start : Loc sc_law_by_columns (Str.ofString "start") := Or.inl (by decide +kernel)
theorem g_law_by_columns_0_max : sc_law_by_columns.names.lookup (Str.ofString "max") = some .globalImplicit := by decide +kernel
theorem v_law_by_columns_0_start : Vis sc_law_by_columns (Str.ofString "start") := Or.inl (by decide +kernel)
def b_law_by_columns : MS := (sSeq (sPar 4 5 (mCons (mCall m_law_take [] (rVar 0 (rCons (m2 dAdd (mVar 3) (M.ret (.int 1))) rNil))) (mCons (mCall m_law_take [] (rVar 0 (rCons (m2 dAdd (mVar 3) (M.ret (.int 1))) rNil))) mNil))) (sSeq (sSet 6 (m2 dSub (m2 dAdd (m2 dAdd (mVar 1) (m2 dMulI (mB gMin2 (mCons (mB gInt1s (mCons (mVar 4) mNil)) (mCons (mB gInt1s (mCons (mVar 5) mNil)) mNil))) (mVar 2))) (mCall m_law_take [] (rVar 0 (rCons (M.ret (.int 3)) rNil)))) (M.ret (.int 1)))) (sRet (mTup (mCons (mVar 6) (mCons (mB gMax2 (mCons (mB gInt1s (mCons (mVar 6) mNil)) (mCons (mB gInt1s (mCons (m2 dSub (m2 dAdd (m2 dAdd (mVar 1) (m2 dMulI (mB gMax2 (mCons (mB gInt1s (mCons (mVar 4) mNil)) (mCons (mB gInt1s (mCons (mVar 5) mNil)) mNil))) (mVar 2))) (mCall m_law_take [] (rVar 0 (rCons (M.ret (.int 3)) rNil)))) (M.ret (.int 1))) mNil)) mNil))) mNil))))))
def m_law_by_columns : FM := mkF 4 7 b_law_by_columns
abbrev s_law_right : Stmt := (top 53)
def sc_law_right : Scope := mkScM [("bag", 1), ("length", 1), ("shift", 1), ("columns", 1), ("number", 0), ("days", 0), ("begin", 1), ("spans", 0), ("kept", 0), ("edge", 0), ("odd", 0), ("pair", 0), ("told", 0), ("mixed", 0), ("_law_days", 3), ("_law_columns", 3), ("_law_take", 3), ("Days", 3), ("range", 3), ("list", 3), ("_law_of", 3), ("_law_told", 3), ("_law_is_strict", 3), ("_law_due", 3), ("_law_odd", 3), ("tuple", 3)] [("fast", "bag"), ("fast", "length"), ("fast", "shift"), ("fast", "columns"), ("fast", "number"), ("fast", "days"), ("fast", "begin"), ("fast", "k"), ("fast", "spans"), ("fast", "kept"), ("fast", "edge"), ("fast", "odd"), ("fast", "pair"), ("fast", "told"), ("fast", "mixed")]
def sc_law_right_1 : Scope := mkSc [(".0", 0), ("k", 0), ("_law_about", 3), ("bag", 1), ("length", 1), ("shift", 1)]
def sc_law_right_1r : Scope := mkSc [(".0", 0), ("k", 0), ("_law_about", 3), ("bag", 2), ("length", 2), ("shift", 2)]
def sc_law_right_2 : Scope := mkSc [(".0", 0), ("k", 0), ("_law_by_columns", 3), ("bag", 1), ("begin", 1), ("columns", 1), ("length", 1)]
def sc_law_right_2r : Scope := mkSc [(".0", 0), ("k", 0), ("_law_by_columns", 3), ("bag", 2), ("begin", 2), ("columns", 2), ("length", 2)]
def N_law_right : List Str := [(Str.ofString "bag"), (Str.ofString "length"), (Str.ofString "shift"), (Str.ofString "columns"), (Str.ofString "number"), (Str.ofString "days"), (Str.ofString "begin"), (Str.ofString "spans"), (Str.ofString "kept"), (Str.ofString "edge"), (Str.ofString "odd"), (Str.ofString "pair"), (Str.ofString "told"), (Str.ofString "mixed"), (Str.ofString "k")]
def P_law_right : List Str := [(Str.ofString "bag")]
def df_law_right : He.DefD := ⟨((Str.ofString "_law_right"), none), (Str.ofString "_law_right"), (Str.ofString "_law_right"), defArgs s_law_right, defBody s_law_right, sc_law_right, [], []⟩
theorem nd_law_right : N_law_right.Nodup := by decide +kernel
theorem so_law_right : FnScope N_law_right P_law_right sc_law_right := ⟨rfl, rfl, rfl, nd_law_right, rfl, by decide +kernel, by decide +kernel⟩
theorem n_law_right_bag : N_law_right[0]? = some (Str.ofString "bag") := rfl
theorem v_law_right_0_bag : Vis sc_law_right (Str.ofString "bag") := Or.inr (Or.inl (by decide +kernel))
theorem g_law_right_0_law_days : sc_law_right.names.lookup (Str.ofString "_law_days") = some .globalImplicit := by decide +kernel
theorem n_law_right_shift : N_law_right[2]? = some (Str.ofString "shift") := rfl
theorem l_law_right_0_shift : Loc sc_law_right (Str.ofString "shift") := Or.inr (by decide +kernel)
theorem n_law_right_length : N_law_right[1]? = some (Str.ofString "length") := rfl
theorem l_law_right_0_length : Loc sc_law_right (Str.ofString "length") := Or.inr (by decide +kernel)
theorem g_law_right_0_law_take : sc_law_right.names.lookup (Str.ofString "_law_take") = some .globalImplicit := by decide +kernel
theorem v_law_right_0_length : Vis sc_law_right (Str.ofString "length") := Or.inr (Or.inl (by decide +kernel))
theorem g_law_right_0_law_columns : sc_law_right.names.lookup (Str.ofString "_law_columns") = some .globalImplicit := by decide +kernel
theorem n_law_right_number : N_law_right[4]? = some (Str.ofString "number") := rfl
theorem l_law_right_0_number : Loc sc_law_right (Str.ofString "number") := Or.inl (by decide +kernel)
theorem n_law_right_columns : N_law_right[3]? = some (Str.ofString "columns") := rfl
theorem l_law_right_0_columns : Loc sc_law_right (Str.ofString "columns") := Or.inr (by decide +kernel)
theorem v_law_right_0_shift : Vis sc_law_right (Str.ofString "shift") := Or.inr (Or.inl (by decide +kernel))
theorem v_law_right_0_number : Vis sc_law_right (Str.ofString "number") := Or.inl (by decide +kernel)
theorem g_law_right_0_Days : sc_law_right.names.lookup (Str.ofString "Days") = some .globalImplicit := by decide +kernel
theorem n_law_right_begin : N_law_right[6]? = some (Str.ofString "begin") := rfl
theorem l_law_right_0_begin : Loc sc_law_right (Str.ofString "begin") := Or.inr (by decide +kernel)
theorem n_law_right_days : N_law_right[5]? = some (Str.ofString "days") := rfl
theorem l_law_right_0_days : Loc sc_law_right (Str.ofString "days") := Or.inl (by decide +kernel)
theorem g_law_right_0_range : sc_law_right.names.lookup (Str.ofString "range") = some .globalImplicit := by decide +kernel
theorem n_law_right_k : N_law_right[14]? = some (Str.ofString "k") := rfl
theorem l_law_right_1_k : Loc sc_law_right_1 (Str.ofString "k") := Or.inl (by decide +kernel)
theorem il_law_right_1_k : sc_law_right_1.names.lookup (Str.ofString "k") = some .local := by decide +kernel
theorem v_law_right_1_shift : Vis sc_law_right_1 (Str.ofString "shift") := Or.inr (Or.inl (by decide +kernel))
theorem v_law_right_1_length : Vis sc_law_right_1 (Str.ofString "length") := Or.inr (Or.inl (by decide +kernel))
theorem v_law_right_1_bag : Vis sc_law_right_1 (Str.ofString "bag") := Or.inr (Or.inl (by decide +kernel))
theorem g_law_right_1_law_about : sc_law_right_1.names.lookup (Str.ofString "_law_about") = some .globalImplicit := by decide +kernel
theorem n_law_right_spans : N_law_right[7]? = some (Str.ofString "spans") := rfl
theorem il_law_right_0_spans : sc_law_right.names.lookup (Str.ofString "spans") = some .local := by decide +kernel
theorem v_law_right_0_spans : Vis sc_law_right (Str.ofString "spans") := Or.inl (by decide +kernel)
theorem l_law_right_2_k : Loc sc_law_right_2 (Str.ofString "k") := Or.inl (by decide +kernel)
theorem il_law_right_2_k : sc_law_right_2.names.lookup (Str.ofString "k") = some .local := by decide +kernel
theorem v_law_right_2_columns : Vis sc_law_right_2 (Str.ofString "columns") := Or.inr (Or.inl (by decide +kernel))
theorem v_law_right_2_length : Vis sc_law_right_2 (Str.ofString "length") := Or.inr (Or.inl (by decide +kernel))
theorem v_law_right_2_begin : Vis sc_law_right_2 (Str.ofString "begin") := Or.inr (Or.inl (by decide +kernel))
theorem v_law_right_2_bag : Vis sc_law_right_2 (Str.ofString "bag") := Or.inr (Or.inl (by decide +kernel))
theorem g_law_right_2_law_by_columns : sc_law_right_2.names.lookup (Str.ofString "_law_by_columns") = some .globalImplicit := by decide +kernel
theorem l_law_right_0_spans : Loc sc_law_right (Str.ofString "spans") := Or.inl (by decide +kernel)
theorem g_law_right_0_list : sc_law_right.names.lookup (Str.ofString "list") = some .globalImplicit := by decide +kernel
theorem n_law_right_kept : N_law_right[8]? = some (Str.ofString "kept") := rfl
theorem l_law_right_0_kept : Loc sc_law_right (Str.ofString "kept") := Or.inl (by decide +kernel)
theorem g_law_right_0_law_of : sc_law_right.names.lookup (Str.ofString "_law_of") = some .globalImplicit := by decide +kernel
theorem n_law_right_edge : N_law_right[9]? = some (Str.ofString "edge") := rfl
theorem l_law_right_0_edge : Loc sc_law_right (Str.ofString "edge") := Or.inl (by decide +kernel)
theorem n_law_right_odd : N_law_right[10]? = some (Str.ofString "odd") := rfl
theorem l_law_right_0_odd : Loc sc_law_right (Str.ofString "odd") := Or.inl (by decide +kernel)
theorem v_law_right_0_odd : Vis sc_law_right (Str.ofString "odd") := Or.inl (by decide +kernel)
theorem v_law_right_0_edge : Vis sc_law_right (Str.ofString "edge") := Or.inl (by decide +kernel)
theorem v_law_right_0_columns : Vis sc_law_right (Str.ofString "columns") := Or.inr (Or.inl (by decide +kernel))
theorem n_law_right_pair : N_law_right[11]? = some (Str.ofString "pair") := rfl
theorem l_law_right_0_pair : Loc sc_law_right (Str.ofString "pair") := Or.inl (by decide +kernel)
theorem v_law_right_0_pair : Vis sc_law_right (Str.ofString "pair") := Or.inl (by decide +kernel)
theorem v_law_right_0_days : Vis sc_law_right (Str.ofString "days") := Or.inl (by decide +kernel)
theorem g_law_right_0_law_told : sc_law_right.names.lookup (Str.ofString "_law_told") = some .globalImplicit := by decide +kernel
theorem n_law_right_told : N_law_right[12]? = some (Str.ofString "told") := rfl
theorem l_law_right_0_told : Loc sc_law_right (Str.ofString "told") := Or.inl (by decide +kernel)
theorem v_law_right_0_kept : Vis sc_law_right (Str.ofString "kept") := Or.inl (by decide +kernel)
theorem g_law_right_0_law_due : sc_law_right.names.lookup (Str.ofString "_law_due") = some .globalImplicit := by decide +kernel
theorem v_law_right_0_told : Vis sc_law_right (Str.ofString "told") := Or.inl (by decide +kernel)
theorem g_law_right_0_law_is_strict : sc_law_right.names.lookup (Str.ofString "_law_is_strict") = some .globalImplicit := by decide +kernel
theorem g_law_right_0_law_odd : sc_law_right.names.lookup (Str.ofString "_law_odd") = some .globalImplicit := by decide +kernel
theorem n_law_right_mixed : N_law_right[13]? = some (Str.ofString "mixed") := rfl
theorem l_law_right_0_mixed : Loc sc_law_right (Str.ofString "mixed") := Or.inl (by decide +kernel)
theorem v_law_right_0_mixed : Vis sc_law_right (Str.ofString "mixed") := Or.inl (by decide +kernel)
theorem g_law_right_0_tuple : sc_law_right.names.lookup (Str.ofString "tuple") = some .globalImplicit := by decide +kernel
def b_law_right_1 : MS := (sAsg (gsTup 2 (gsCons (setD 1) (gsCons (setD 2) gsNil))) (mCall m_law_days [] (rVar 0 rNil)))
def b_law_right_2 : MS := (sAsg (gsTup 2 (gsCons (setD 3) (gsCons (setD 4) gsNil))) (mTup (mCons (mCall m_law_columns [] (rVar 0 (rVar 1 rNil))) (mCons (m2 dSub (mCall m_law_take [] (rVar 0 (rCons (M.ret (.int 9)) rNil))) (M.ret (.int 4))) mNil))))
def b_law_right_3 : MS := (sAsg (gsTup 2 (gsCons (setD 5) (gsCons (setD 6) gsNil))) (mTup (mCons (mFz (mMake "Days" m_Days___init [.inl 0, .inl 1, .inl 2] (1 + 1) (rApp 1 (rVar 1 rNil) (rCons (mVar 2) rNil)))) (mCons (m2 dAdd (mVar 2) (m2 dMulI (mVar 4) (mVar 1))) mNil))))
def b_law_right_4 : MS := (sSet 7 (mFz (mComp [14] (setD 14) (M.ret true) (mCall m_law_about [] (rVar 0 (rVar 1 (rVar 2 rNil)))) (mRng rng1 (mCons (mCall m_law_take [] (rVar 0 (rCons (M.ret (.int 4)) rNil))) mNil)))))
def b_law_right_5 : MS := (sSet 7 (m2 dAdd (mVar 7) (mFz (mComp [14] (setD 14) (M.ret true) (mCall m_law_by_columns [] (rVar 0 (rVar 6 (rCons (m2 dFdiv (mVar 1) (mVar 3)) (rVar 3 rNil))))) (mRng rng1 (mCons (mCall m_law_take [] (rVar 0 (rCons (M.ret (.int 4)) rNil))) mNil))))))
def b_law_right_6 : MS := (sSet 8 (mB gList1 (mCons (mVar 7) mNil)))
def b_law_right_7 : MS := (sSet 9 (m2 dSub (m2 dAdd (m2 dFdiv (m2 dSub (mCall m_law_of [] (rVar 0 (rCons (mFz (mLst (mCons (m2 dPow (M.ret (.int 10)) (M.ret (.int 30))) (mCons (m1 dNeg (m2 dPow (M.ret (.int 10)) (M.ret (.int 30)))) mNil)))) rNil))) (mVar 2)) (mVar 1)) (mCall m_law_take [] (rVar 0 (rCons (M.ret (.int 4)) rNil)))) (M.ret (.int 2))))
def b_law_right_8 : MS := (sSet 10 (mCall m_law_of [] (rVar 0 (rCons (mFz (mLst (mCons (M.ret .non) (mCons (M.ret (.bl true)) (mCons (M.ret (.int 0)) (mCons (m1 dNeg (M.ret (.int 1))) (mCons (M.ret (.int 121)) (mCons (M.ret (.int 120)) (mCons (M.ret (.int 24)) (mCons (M.ret (.int 7)) (mCons (M.ret (.str (Str.ofString "24"))) (mCons (mTup (mCons (M.ret (.int 1)) mNil)) (mCons (mVar 1) (mCons (m2 dAdd (mVar 1) (M.ret (.int 1))) (mCons (m2 dPow (M.ret (.int 10)) (M.ret (.int 31))) (mCons (mFz (mLst (mCons (M.ret (.int 24)) mNil))) (mCons (M.ret (.int 1)) mNil))))))))))))))))) rNil))))
def b_law_right_9 : MS := (sFor (setD 11) (mItems (mTup (mCons (mFz (mLst (mCons (mVar 4) (mCons (mVar 3) mNil)))) (mCons (mFz (mLst (mCons (mVar 9) (mCons (mVar 3) mNil)))) (mCons (mFz (mLst (mCons (mVar 4) (mCons (mVar 10) mNil)))) (mCons (mFz (mLst (mCons (mVar 9) (mCons (mVar 10) mNil)))) (mCons (mFz (mLst (mCons (mVar 4) (mCons (M.ret (.int 24)) mNil)))) mNil))))))) (sSeq (sSet 12 (mCall m_law_told [] (rVar 5 (rVar 7 (rCons (mIxN 11 (M.ret (.int 0))) (rCons (mIxN 11 (M.ret (.int 1))) rNil)))))) (sIf (mTOr (mTNot (mTru (mCall (m_law_is_strict 6) [] (rVar 12 (rCons (mCall m_law_due [] (rVar 8 (rCons (mIxN 11 (M.ret (.int 0))) (rCons (mIxN 11 (M.ret (.int 1))) (rVar 1 (rVar 2 rNil)))))) rNil))))) (mT (m2 dNe (mVar 7) (mVar 8)))) (sRet (M.ret (.bl false))) (fun ev => some (.nx ev)))))
def b_law_right_10 : MS := (sSet 13 (m2 dAdd (mVar 7) (mFz (mLst (mCons (mCall m_law_odd [] (rVar 0 rNil)) mNil)))))
def b_law_right_11 : MS := (sRet (mCall (m_law_is_strict 6) [] (rCons (mCall m_law_told [] (rVar 5 (rCons (mB gTuple1 (mCons (mVar 13) mNil)) (rVar 9 (rVar 10 rNil))))) (rCons (mCall m_law_due [] (rVar 13 (rVar 9 (rVar 10 (rVar 1 (rVar 2 rNil)))))) rNil))))
def b_law_right : MS := (sSeq b_law_right_1 (sSeq b_law_right_2 (sSeq b_law_right_3 (sSeq b_law_right_4 (sSeq b_law_right_5 (sSeq b_law_right_6 (sSeq b_law_right_7 (sSeq b_law_right_8 (sSeq b_law_right_9 (sSeq b_law_right_10 b_law_right_11))))))))))
def m_law_right : FM := mkF 1 15 b_law_right
abbrev s_law : Stmt := (top 54)
def sc_law : Scope := mkSc [("script", 0), ("at", 0), ("bag", 0), ("turn", 0), ("range", 3), ("max", 3), ("min", 3), ("len", 3), ("_law_bag", 3), ("_law_right", 3)]
def N_law : List Str := [(Str.ofString "script"), (Str.ofString "at"), (Str.ofString "bag"), (Str.ofString "turn")]
def P_law : List Str := [(Str.ofString "script")]
def df_law : He.DefD := ⟨((Str.ofString "law"), none), (Str.ofString "law"), (Str.ofString "law"), defArgs s_law, defBody s_law, sc_law, [], []⟩
theorem nd_law : N_law.Nodup := by decide +kernel
theorem so_law : FnScope N_law P_law sc_law := ⟨rfl, rfl, rfl, nd_law, rfl, by decide +kernel, by decide +kernel⟩
theorem g_law_0_len : sc_law.names.lookup (Str.ofString "len") = some .globalImplicit := by decide +kernel
theorem n_law_script : N_law[0]? = some (Str.ofString "script") := rfl
theorem v_law_0_script : Vis sc_law (Str.ofString "script") := Or.inl (by decide +kernel)
theorem g_law_0_min : sc_law.names.lookup (Str.ofString "min") = some .globalImplicit := by decide +kernel
theorem g_law_0_max : sc_law.names.lookup (Str.ofString "max") = some .globalImplicit := by decide +kernel
theorem g_law_0_range : sc_law.names.lookup (Str.ofString "range") = some .globalImplicit := by decide +kernel
theorem n_law_at : N_law[1]? = some (Str.ofString "at") := rfl
theorem l_law_0_at : Loc sc_law (Str.ofString "at") := Or.inl (by decide +kernel)
theorem v_law_0_at : Vis sc_law (Str.ofString "at") := Or.inl (by decide +kernel)
theorem g_law_0_law_bag : sc_law.names.lookup (Str.ofString "_law_bag") = some .globalImplicit := by decide +kernel
theorem n_law_bag : N_law[2]? = some (Str.ofString "bag") := rfl
theorem l_law_0_bag : Loc sc_law (Str.ofString "bag") := Or.inl (by decide +kernel)
theorem n_law_turn : N_law[3]? = some (Str.ofString "turn") := rfl
theorem l_law_0_turn : Loc sc_law (Str.ofString "turn") := Or.inl (by decide +kernel)
theorem v_law_0_bag : Vis sc_law (Str.ofString "bag") := Or.inl (by decide +kernel)
theorem g_law_0_law_right : sc_law.names.lookup (Str.ofString "_law_right") = some .globalImplicit := by decide +kernel
def b_law : MS := (sSeq (sFor (setD 1) (mRng rng1 (mCons (mB gMax2 (mCons (M.ret (.int 1)) (mCons (mB gMin2 (mCons (M.ret (.int 5)) (mCons (mBN gLen 0) mNil))) mNil))) mNil)) (sSeq (sSetF 2 (mCallF m_law_bag [] (rVar 0 (rVar 1 rNil)))) (sFor (setD 3) (mRng rng1 (mCons (M.ret (.int 2)) mNil)) (sIf (mTNot (mTru (mCall m_law_right [] (rVar 2 rNil)))) (sRet (M.ret (.bl false))) (fun ev => some (.nx ev)))))) (sRet (M.ret (.bl true))))
def m_law : FM := mkF 1 4 b_law
def fa : List He.Fa := [.meth (Str.ofString "BadMoment") (Str.ofString "__init__"), .noat (Str.ofString "BadMoment") (Str.ofString "moment"), .free (Str.ofString "ValueError"), .glo (Str.ofString "BadMoment"), .meth (Str.ofString "BadEnds") (Str.ofString "__init__"), .noat (Str.ofString "BadEnds") (Str.ofString "ends"), .glo (Str.ofString "BadEnds"), .meth (Str.ofString "BadItem") (Str.ofString "__init__"), .noat (Str.ofString "BadItem") (Str.ofString "index"), .glo (Str.ofString "BadItem"), .meth (Str.ofString "BadDay") (Str.ofString "__init__"), .noat (Str.ofString "BadDay") (Str.ofString "day"), .glo (Str.ofString "BadDay"), .meth (Str.ofString "BadColumns") (Str.ofString "__init__"), .noat (Str.ofString "BadColumns") (Str.ofString "columns"), .glo (Str.ofString "BadColumns"), .meth (Str.ofString "TooFar") (Str.ofString "__init__"), .noat (Str.ofString "TooFar") (Str.ofString "edge"), .free (Str.ofString "OverflowError"), .glo (Str.ofString "TooFar"), .free (Str.ofString "int"), .free (Str.ofString "isinstance"), .free (Str.ofString "bool"), .glo (Str.ofString "is_integer"), .glo (Str.ofString "is_near"), .glo (Str.ofString "is_edge"), .glo (Str.ofString "is_moment"), .free (Str.ofString "tuple"), .free (Str.ofString "len"), .glo (Str.ofString "is_pair"), .glo (Str.ofString "is_stretch"), .free (Str.ofString "str"), .glo (Str.ofString "is_ends"), .glo (Str.ofString "check_ends"), .free (Str.ofString "enumerate"), .glo (Str.ofString "check_spans"), .free (Str.ofString "sorted"), .free (Str.ofString "max"), .glo (Str.ofString "checked_edge"), .free (Str.ofString "min"), .free (Str.ofString "sum"), .glo (Str.ofString "held_between"), .cls (Str.ofString "Days"), .noat (Str.ofString "Days") (Str.ofString "length"), .noat (Str.ofString "Days") (Str.ofString "offset"), .free (Str.ofString "range"), .free (Str.ofString "abs"), .glo (Str.ofString "_law_bag"), .glo (Str.ofString "_law_take"), .glo (Str.ofString "_law_of"), .glo (Str.ofString "_law_number"), .glo (Str.ofString "_law_stretch"), .glo (Str.ofString "_law_union"), .free (Str.ofString "list"), .free (Str.ofString "all"), .glo (Str.ofString "_law_is_strict"), .glo (Str.ofString "_law_is_near"), .glo (Str.ofString "_law_is_edge"), .glo (Str.ofString "_law_is_stretch"), .glo (Str.ofString "_law_odd"), .glo (Str.ofString "_law_days"), .glo (Str.ofString "_law_overlap"), .glo (Str.ofString "_law_ended"), .glo (Str.ofString "_law_cells"), .glo (Str.ofString "_law_columns"), .glo (Str.ofString "_law_about"), .glo (Str.ofString "_law_told"), .glo (Str.ofString "_law_is_fit"), .glo (Str.ofString "_law_due"), .glo (Str.ofString "_law_by_columns"), .glo (Str.ofString "Days"), .glo (Str.ofString "_law_right"), .glo (Str.ofString "law"), .glo (Str.ofString "is_empty"), .glo (Str.ofString "union"), .mkr (Str.ofString "Days"), .meth (Str.ofString "Days") (Str.ofString "bounds"), .meth (Str.ofString "Days") (Str.ofString "check_columns"), .meth (Str.ofString "Days") (Str.ofString "drawn"), .exm (Str.ofString "BadColumns") (Str.ofString "BadColumns") true, .exm (Str.ofString "BadDay") (Str.ofString "BadColumns") false, .exm (Str.ofString "BadEnds") (Str.ofString "BadColumns") false, .exm (Str.ofString "BadItem") (Str.ofString "BadColumns") false, .exm (Str.ofString "BadMoment") (Str.ofString "BadColumns") false, .exm (Str.ofString "TooFar") (Str.ofString "BadColumns") false, .exm (Str.ofString "BadColumns") (Str.ofString "BadItem") false, .exm (Str.ofString "BadDay") (Str.ofString "BadItem") false, .exm (Str.ofString "BadEnds") (Str.ofString "BadItem") false, .exm (Str.ofString "BadItem") (Str.ofString "BadItem") true, .exm (Str.ofString "BadMoment") (Str.ofString "BadItem") false, .exm (Str.ofString "TooFar") (Str.ofString "BadItem") false, .exm (Str.ofString "BadColumns") (Str.ofString "TooFar") false, .exm (Str.ofString "BadDay") (Str.ofString "TooFar") false, .exm (Str.ofString "BadEnds") (Str.ofString "TooFar") false, .exm (Str.ofString "BadItem") (Str.ofString "TooFar") false, .exm (Str.ofString "BadMoment") (Str.ofString "TooFar") false, .exm (Str.ofString "TooFar") (Str.ofString "TooFar") true]
def fn : List He.DefD := [df_BadMoment___init, df_BadEnds___init, df_BadItem___init, df_BadDay___init, df_BadColumns___init, df_TooFar___init, df_is_integer, df_is_near, df_is_edge, df_is_moment, df_is_pair, df_is_stretch, df_is_ends, df_check_ends, df_check_spans, df_is_empty, df_union, df_checked_edge, df_held_between, df_Days___init, df_Days_bounds, df_Days_check_columns, df_Days_drawn, df_law_bag, df_law_take, df_law_of, df_law_number, df_law_stretch, df_law_union, df_law_is_strict, df_law_is_near, df_law_is_edge, df_law_is_stretch, df_law_odd, df_law_days, df_law_overlap, df_law_ended, df_law_cells, df_law_columns, df_law_about, df_law_told, df_law_is_fit, df_law_due, df_law_by_columns, df_law_right, df_law]
def fx : List Fx := [.raw (oxF "BadMoment" .ve), .raw (viF .ve), .raw (oxF "BadEnds" .ve), .raw (oxF "BadItem" .ve), .raw (oxF "BadDay" .ve), .raw (oxF "BadColumns" .ve), .raw (oxF "TooFar" .oe), .raw (viF .oe), .con "MOST" (.int 1000000000000000000000000000000), .con "LAST" (.int 10000000000000000000000000000000), .con "FIRST" (.int (-10000000000000000000000000000000)), .con "Ends" (.cls "Ends"), .raw (ccF "Ends" "SHUT" (.str (Str.ofString "shut"))), .raw (ccF "Ends" "HALF" (.str (Str.ofString "half"))), .con "LONGEST" (.int 1000000), .con "MOST_COLUMNS" (.int 120), .raw (fun K => xfB K (cad K "BadItem")), .raw (fun K => xfB K (cad K "BadColumns")), .raw (fun K => xfB K (cad K "TooFar")), .kit (.b "NoneType") (.b "int") false, .kit (.b "NoneType") (.b "bool") false, .kit (.b "NoneType") (.b "str") false, .kit (.b "NoneType") (.b "tuple") false, .kit (.b "NoneType") (.b "list") false, .kit (.b "bool") (.b "int") true, .kit (.b "bool") (.b "bool") true, .kit (.b "bool") (.b "str") false, .kit (.b "bool") (.b "tuple") false, .kit (.b "bool") (.b "list") false, .kit (.b "int") (.b "int") true, .kit (.b "int") (.b "bool") false, .kit (.b "int") (.b "str") false, .kit (.b "int") (.b "tuple") false, .kit (.b "int") (.b "list") false, .kit (.b "str") (.b "int") false, .kit (.b "str") (.b "bool") false, .kit (.b "str") (.b "str") true, .kit (.b "str") (.b "tuple") false, .kit (.b "str") (.b "list") false, .kit (.b "tuple") (.b "int") false, .kit (.b "tuple") (.b "bool") false, .kit (.b "tuple") (.b "str") false, .kit (.b "tuple") (.b "tuple") true, .kit (.b "tuple") (.b "list") false, .kit (.b "list") (.b "int") false, .kit (.b "list") (.b "bool") false, .kit (.b "list") (.b "str") false, .kit (.b "list") (.b "tuple") false, .kit (.b "list") (.b "list") true]
variable {P : Program} {w : World} {K : PySem.W.Frag} {mg : Str → Option Value} {base h : Heap}
theorem kitT (KX : K.In h) (G : h.Ns mainGlobals mg) (c : SaysF fa fn fx K) : KitT K kt ins := by
  refine ⟨fun r hr => ?_, fun C hC => ?_⟩
  · unfold kt at hr
    simp only [List.mem_cons, List.not_mem_nil, or_false] at hr
    rcases hr with rfl | rfl | rfl | rfl | rfl | rfl | rfl | rfl | rfl | rfl | rfl | rfl | rfl | rfl | rfl | rfl | rfl | rfl | rfl | rfl | rfl | rfl | rfl | rfl | rfl | rfl | rfl | rfl | rfl | rfl
    · exact kit_ok (c.get 19 rfl)
    · exact kit_ok (c.get 20 rfl)
    · exact kit_ok (c.get 21 rfl)
    · exact kit_ok (c.get 22 rfl)
    · exact kit_ok (c.get 23 rfl)
    · exact kit_ok (c.get 24 rfl)
    · exact kit_ok (c.get 25 rfl)
    · exact kit_ok (c.get 26 rfl)
    · exact kit_ok (c.get 27 rfl)
    · exact kit_ok (c.get 28 rfl)
    · exact kit_ok (c.get 29 rfl)
    · exact kit_ok (c.get 30 rfl)
    · exact kit_ok (c.get 31 rfl)
    · exact kit_ok (c.get 32 rfl)
    · exact kit_ok (c.get 33 rfl)
    · exact kit_ok (c.get 34 rfl)
    · exact kit_ok (c.get 35 rfl)
    · exact kit_ok (c.get 36 rfl)
    · exact kit_ok (c.get 37 rfl)
    · exact kit_ok (c.get 38 rfl)
    · exact kit_ok (c.get 39 rfl)
    · exact kit_ok (c.get 40 rfl)
    · exact kit_ok (c.get 41 rfl)
    · exact kit_ok (c.get 42 rfl)
    · exact kit_ok (c.get 43 rfl)
    · exact kit_ok (c.get 44 rfl)
    · exact kit_ok (c.get 45 rfl)
    · exact kit_ok (c.get 46 rfl)
    · exact kit_ok (c.get 47 rfl)
    · exact kit_ok (c.get 48 rfl)
  · unfold ins at hC
    simp only [List.mem_cons, List.not_mem_nil, or_false] at hC
theorem xtOk (KX : K.In h) (G : h.Ns mainGlobals mg) (c : SaysF fa fn fx K) : XtOk K xt := by
  unfold XtOk xt
  exact (all_cons (He.exm_ok (c.d.fact 79 rfl)) (all_cons (He.exm_ok (c.d.fact 80 rfl)) (all_cons (He.exm_ok (c.d.fact 81 rfl)) (all_cons (He.exm_ok (c.d.fact 82 rfl)) (all_cons (He.exm_ok (c.d.fact 83 rfl)) (all_cons (He.exm_ok (c.d.fact 84 rfl)) (all_cons (He.exm_ok (c.d.fact 85 rfl)) (all_cons (He.exm_ok (c.d.fact 86 rfl)) (all_cons (He.exm_ok (c.d.fact 87 rfl)) (all_cons (He.exm_ok (c.d.fact 88 rfl)) (all_cons (He.exm_ok (c.d.fact 89 rfl)) (all_cons (He.exm_ok (c.d.fact 90 rfl)) (all_cons (He.exm_ok (c.d.fact 91 rfl)) (all_cons (He.exm_ok (c.d.fact 92 rfl)) (all_cons (He.exm_ok (c.d.fact 93 rfl)) (all_cons (He.exm_ok (c.d.fact 94 rfl)) (all_cons (He.exm_ok (c.d.fact 95 rfl)) (all_cons (He.exm_ok (c.d.fact 96 rfl)) all_nil))))))))))))))))))
theorem xs_BadMoment (KX : K.In h) (G : h.Ns mainGlobals mg) (c : SaysF fa fn fx K) : XSite P w K mg base "BadMoment" "moment" 1 := by
  obtain ⟨fd, F⟩ := c.d.def_ 0 (d := df_BadMoment___init) rfl
  exact xsite_mk F (oxF_ok (c.get 0 rfl)) (He.meth_ok (c.d.fact 0 rfl)) (init_ok (b := .ve) F so_BadMoment___init (oxF_ok (c.get 0 rfl)) (He.noat_ok (c.d.fact 1 rfl)) rfl v_BadMoment___init_0_self v_BadMoment___init_0_moment (fun _ _ _ _ _ _ => g_BadMoment___init_0_ValueError) (He.free_ok KX G (c.d.fact 2 rfl)) (viF_ok (c.get 1 rfl)) (fun _ => rfl) rfl) (He.glo_ok KX G (c.d.fact 3 rfl)) (fun _ _ _ _ _ _ us hl => match us, hl with | [_, _], _ => rfl)
theorem xs_BadEnds (KX : K.In h) (G : h.Ns mainGlobals mg) (c : SaysF fa fn fx K) : XSite P w K mg base "BadEnds" "ends" 1 := by
  obtain ⟨fd, F⟩ := c.d.def_ 1 (d := df_BadEnds___init) rfl
  exact xsite_mk F (oxF_ok (c.get 2 rfl)) (He.meth_ok (c.d.fact 4 rfl)) (init_ok (b := .ve) F so_BadEnds___init (oxF_ok (c.get 2 rfl)) (He.noat_ok (c.d.fact 5 rfl)) rfl v_BadEnds___init_0_self v_BadEnds___init_0_ends (fun _ _ _ _ _ _ => g_BadEnds___init_0_ValueError) (He.free_ok KX G (c.d.fact 2 rfl)) (viF_ok (c.get 1 rfl)) (fun _ => rfl) rfl) (He.glo_ok KX G (c.d.fact 6 rfl)) (fun _ _ _ _ _ _ us hl => match us, hl with | [_, _], _ => rfl)
theorem xs_BadItem (KX : K.In h) (G : h.Ns mainGlobals mg) (c : SaysF fa fn fx K) : XSite P w K mg base "BadItem" "index" 1 := by
  obtain ⟨fd, F⟩ := c.d.def_ 2 (d := df_BadItem___init) rfl
  exact xsite_mk F (oxF_ok (c.get 3 rfl)) (He.meth_ok (c.d.fact 7 rfl)) (init_ok (b := .ve) F so_BadItem___init (oxF_ok (c.get 3 rfl)) (He.noat_ok (c.d.fact 8 rfl)) rfl v_BadItem___init_0_self v_BadItem___init_0_index (fun _ _ _ _ _ _ => g_BadItem___init_0_ValueError) (He.free_ok KX G (c.d.fact 2 rfl)) (viF_ok (c.get 1 rfl)) (fun _ => rfl) rfl) (He.glo_ok KX G (c.d.fact 9 rfl)) (fun _ _ _ _ _ _ us hl => match us, hl with | [_, _], _ => rfl)
theorem xs_BadDay (KX : K.In h) (G : h.Ns mainGlobals mg) (c : SaysF fa fn fx K) : XSite P w K mg base "BadDay" "day" 1 := by
  obtain ⟨fd, F⟩ := c.d.def_ 3 (d := df_BadDay___init) rfl
  exact xsite_mk F (oxF_ok (c.get 4 rfl)) (He.meth_ok (c.d.fact 10 rfl)) (init_ok (b := .ve) F so_BadDay___init (oxF_ok (c.get 4 rfl)) (He.noat_ok (c.d.fact 11 rfl)) rfl v_BadDay___init_0_self v_BadDay___init_0_day (fun _ _ _ _ _ _ => g_BadDay___init_0_ValueError) (He.free_ok KX G (c.d.fact 2 rfl)) (viF_ok (c.get 1 rfl)) (fun _ => rfl) rfl) (He.glo_ok KX G (c.d.fact 12 rfl)) (fun _ _ _ _ _ _ us hl => match us, hl with | [_, _], _ => rfl)
theorem xs_BadColumns (KX : K.In h) (G : h.Ns mainGlobals mg) (c : SaysF fa fn fx K) : XSite P w K mg base "BadColumns" "columns" 1 := by
  obtain ⟨fd, F⟩ := c.d.def_ 4 (d := df_BadColumns___init) rfl
  exact xsite_mk F (oxF_ok (c.get 5 rfl)) (He.meth_ok (c.d.fact 13 rfl)) (init_ok (b := .ve) F so_BadColumns___init (oxF_ok (c.get 5 rfl)) (He.noat_ok (c.d.fact 14 rfl)) rfl v_BadColumns___init_0_self v_BadColumns___init_0_columns (fun _ _ _ _ _ _ => g_BadColumns___init_0_ValueError) (He.free_ok KX G (c.d.fact 2 rfl)) (viF_ok (c.get 1 rfl)) (fun _ => rfl) rfl) (He.glo_ok KX G (c.d.fact 15 rfl)) (fun _ _ _ _ _ _ us hl => match us, hl with | [_, _], _ => rfl)
theorem xs_TooFar (KX : K.In h) (G : h.Ns mainGlobals mg) (c : SaysF fa fn fx K) : XSite P w K mg base "TooFar" "edge" 1 := by
  obtain ⟨fd, F⟩ := c.d.def_ 5 (d := df_TooFar___init) rfl
  exact xsite_mk F (oxF_ok (c.get 6 rfl)) (He.meth_ok (c.d.fact 16 rfl)) (init_ok (b := .oe) F so_TooFar___init (oxF_ok (c.get 6 rfl)) (He.noat_ok (c.d.fact 17 rfl)) rfl v_TooFar___init_0_self v_TooFar___init_0_edge (fun _ _ _ _ _ _ => g_TooFar___init_0_OverflowError) (He.free_ok KX G (c.d.fact 18 rfl)) (viF_ok (c.get 7 rfl)) (fun _ => rfl) rfl) (He.glo_ok KX G (c.d.fact 19 rfl)) (fun _ _ _ _ _ _ us hl => match us, hl with | [_, _], _ => rfl)
theorem e_is_integer (KX : K.In h) (G : h.Ns mainGlobals mg) (c : SaysF fa fn fx K) : Core P w K mg base (He.fAd K ((Str.ofString "is_integer"), none)) (Str.ofString "is_integer") (Str.ofString "is_integer") (defArgs s_is_integer) (defBody s_is_integer) sc_is_integer (df_is_integer.dvs K) (df_is_integer.kws K) 1 P_is_integer m_is_integer := by
  obtain ⟨fd, F⟩ := c.d.def_ 6 (d := df_is_integer) rfl
  refine core_mk (N := N_is_integer) (ps := P_is_integer) F so_is_integer fun cdv A outer s H E hr => ?_
  have tk : Takes (cxOf (L2.CX P w) P w K mg base N_is_integer (Str.ofString "is_integer") sc_is_integer (He.fAd K ((Str.ofString "is_integer"), none)) cdv A outer s H E) (wDef E) := takes_of rfl rfl rfl rfl
  exact (sb_one (ss_ret (se_and (se_callB (cs_isi (kitT KX G c)) (He.free_ok KX G (c.d.fact 21 rfl)) g_is_integer_0_isinstance (by decide +kernel) (sa_cons (se_var 0 n_is_integer_thing v_is_integer_0_thing) (sa_cons (se_ty (He.free_ok KX G (c.d.fact 20 rfl)) g_is_integer_0_int (by decide +kernel)) sa_nil))) (se_one (se_not (se_callB (cs_isi (kitT KX G c)) (He.free_ok KX G (c.d.fact 21 rfl)) g_is_integer_0_isinstance (by decide +kernel) (sa_cons (se_var 0 n_is_integer_thing v_is_integer_0_thing) (sa_cons (se_ty (He.free_ok KX G (c.d.fact 22 rfl)) g_is_integer_0_bool (by decide +kernel)) sa_nil))))))))
theorem d_is_integer (KX : K.In h) (G : h.Ns mainGlobals mg) (c : SaysF fa fn fx K) : Dfn P w K mg base "is_integer" 1 m_is_integer [] := dfn_core (e_is_integer KX G c) (He.glo_ok KX G (c.d.fact 23 rfl)) (fun _ _ _ _ _ _ us hl => match us, hl with | [_], _ => rfl)
theorem e_is_near (KX : K.In h) (G : h.Ns mainGlobals mg) (c : SaysF fa fn fx K) : Core P w K mg base (He.fAd K ((Str.ofString "is_near"), none)) (Str.ofString "is_near") (Str.ofString "is_near") (defArgs s_is_near) (defBody s_is_near) sc_is_near (df_is_near.dvs K) (df_is_near.kws K) 1 P_is_near m_is_near := by
  obtain ⟨fd, F⟩ := c.d.def_ 7 (d := df_is_near) rfl
  refine core_mk (N := N_is_near) (ps := P_is_near) F so_is_near fun cdv A outer s H E hr => ?_
  have tk : Takes (cxOf (L2.CX P w) P w K mg base N_is_near (Str.ofString "is_near") sc_is_near (He.fAd K ((Str.ofString "is_near"), none)) cdv A outer s H E) (wDef E) := takes_of rfl rfl rfl rfl
  exact (sb_one (ss_ret (se_chain os_le os_le (se_un us_neg (se_glob (glb_con KX G (c.get 8 rfl)) g_is_near_0_MOST)) (se_var 0 n_is_near_number v_is_near_0_number) (se_glob (glb_con KX G (c.get 8 rfl)) g_is_near_0_MOST) (by with_unfolding_all rfl))))
theorem d_is_near (KX : K.In h) (G : h.Ns mainGlobals mg) (c : SaysF fa fn fx K) : Dfn P w K mg base "is_near" 1 m_is_near [] := dfn_core (e_is_near KX G c) (He.glo_ok KX G (c.d.fact 24 rfl)) (fun _ _ _ _ _ _ us hl => match us, hl with | [_], _ => rfl)
theorem e_is_edge (KX : K.In h) (G : h.Ns mainGlobals mg) (c : SaysF fa fn fx K) : Core P w K mg base (He.fAd K ((Str.ofString "is_edge"), none)) (Str.ofString "is_edge") (Str.ofString "is_edge") (defArgs s_is_edge) (defBody s_is_edge) sc_is_edge (df_is_edge.dvs K) (df_is_edge.kws K) 2 P_is_edge m_is_edge := by
  obtain ⟨fd, F⟩ := c.d.def_ 8 (d := df_is_edge) rfl
  refine core_mk (N := N_is_edge) (ps := P_is_edge) F so_is_edge fun cdv A outer s H E hr => ?_
  have tk : Takes (cxOf (L2.CX P w) P w K mg base N_is_edge (Str.ofString "is_edge") sc_is_edge (He.fAd K ((Str.ofString "is_edge"), none)) cdv A outer s H E) (wDef E) := takes_of rfl rfl rfl rfl
  exact (sb_one (ss_ret (se_and (se_call (d_is_integer KX G c) (hr.mono (by omega)) tk g_is_edge_0_is_integer (sr_var 0 n_is_edge_thing v_is_edge_0_thing sr_nil)) (se_one (se_or (se_cmp os_in (se_var 0 n_is_edge_thing v_is_edge_0_thing) (se_tup (sa_cons (se_glob (glb_con KX G (c.get 10 rfl)) g_is_edge_0_FIRST) (sa_cons (se_glob (glb_con KX G (c.get 9 rfl)) g_is_edge_0_LAST) sa_nil))) (by rfl)) (se_one (se_call (d_is_near KX G c) (hr.mono (by omega)) tk g_is_edge_0_is_near (sr_var 0 n_is_edge_thing v_is_edge_0_thing sr_nil))))))))
theorem d_is_edge (KX : K.In h) (G : h.Ns mainGlobals mg) (c : SaysF fa fn fx K) : Dfn P w K mg base "is_edge" 2 m_is_edge [] := dfn_core (e_is_edge KX G c) (He.glo_ok KX G (c.d.fact 25 rfl)) (fun _ _ _ _ _ _ us hl => match us, hl with | [_], _ => rfl)
theorem e_is_moment (KX : K.In h) (G : h.Ns mainGlobals mg) (c : SaysF fa fn fx K) : Core P w K mg base (He.fAd K ((Str.ofString "is_moment"), none)) (Str.ofString "is_moment") (Str.ofString "is_moment") (defArgs s_is_moment) (defBody s_is_moment) sc_is_moment (df_is_moment.dvs K) (df_is_moment.kws K) 2 P_is_moment m_is_moment := by
  obtain ⟨fd, F⟩ := c.d.def_ 9 (d := df_is_moment) rfl
  refine core_mk (N := N_is_moment) (ps := P_is_moment) F so_is_moment fun cdv A outer s H E hr => ?_
  have tk : Takes (cxOf (L2.CX P w) P w K mg base N_is_moment (Str.ofString "is_moment") sc_is_moment (He.fAd K ((Str.ofString "is_moment"), none)) cdv A outer s H E) (wDef E) := takes_of rfl rfl rfl rfl
  exact (sb_one (ss_ret (se_and (se_call (d_is_integer KX G c) (hr.mono (by omega)) tk g_is_moment_0_is_integer (sr_var 0 n_is_moment_thing v_is_moment_0_thing sr_nil)) (se_one (se_chain os_lt os_lt (se_glob (glb_con KX G (c.get 10 rfl)) g_is_moment_0_FIRST) (se_var 0 n_is_moment_thing v_is_moment_0_thing) (se_glob (glb_con KX G (c.get 9 rfl)) g_is_moment_0_LAST) (by with_unfolding_all rfl))))))
theorem d_is_moment (KX : K.In h) (G : h.Ns mainGlobals mg) (c : SaysF fa fn fx K) : Dfn P w K mg base "is_moment" 2 m_is_moment [] := dfn_core (e_is_moment KX G c) (He.glo_ok KX G (c.d.fact 26 rfl)) (fun _ _ _ _ _ _ us hl => match us, hl with | [_], _ => rfl)
theorem e_is_pair (KX : K.In h) (G : h.Ns mainGlobals mg) (c : SaysF fa fn fx K) : Core P w K mg base (He.fAd K ((Str.ofString "is_pair"), none)) (Str.ofString "is_pair") (Str.ofString "is_pair") (defArgs s_is_pair) (defBody s_is_pair) sc_is_pair (df_is_pair.dvs K) (df_is_pair.kws K) 3 P_is_pair m_is_pair := by
  obtain ⟨fd, F⟩ := c.d.def_ 10 (d := df_is_pair) rfl
  refine core_mk (N := N_is_pair) (ps := P_is_pair) F so_is_pair fun cdv A outer s H E hr => ?_
  have tk : Takes (cxOf (L2.CX P w) P w K mg base N_is_pair (Str.ofString "is_pair") sc_is_pair (He.fAd K ((Str.ofString "is_pair"), none)) cdv A outer s H E) (wDef E) := takes_of rfl rfl rfl rfl
  exact (sb_one (ss_ret (se_and (se_callB (cs_isi (kitT KX G c)) (He.free_ok KX G (c.d.fact 21 rfl)) g_is_pair_0_isinstance (by decide +kernel) (sa_cons (se_var 0 n_is_pair_thing v_is_pair_0_thing) (sa_cons (se_ty (He.free_ok KX G (c.d.fact 27 rfl)) g_is_pair_0_tuple (by decide +kernel)) sa_nil))) (se_and (se_cmp (os_eq hr.units) (se_callBN 0 call_len lenR_ok (He.free_ok KX G (c.d.fact 28 rfl)) g_is_pair_0_len (by decide +kernel) n_is_pair_thing v_is_pair_0_thing) se_int (nomark _)) (se_and (se_call (d_is_edge KX G c) (hr.mono (by omega)) tk g_is_pair_0_is_edge (sr_cons (se_ixN 0 n_is_pair_thing v_is_pair_0_thing se_int) sr_nil)) (se_one (se_call (d_is_edge KX G c) (hr.mono (by omega)) tk g_is_pair_0_is_edge (sr_cons (se_ixN 0 n_is_pair_thing v_is_pair_0_thing se_int) sr_nil))))))))
theorem d_is_pair (KX : K.In h) (G : h.Ns mainGlobals mg) (c : SaysF fa fn fx K) : Dfn P w K mg base "is_pair" 3 m_is_pair [] := dfn_core (e_is_pair KX G c) (He.glo_ok KX G (c.d.fact 29 rfl)) (fun _ _ _ _ _ _ us hl => match us, hl with | [_], _ => rfl)
theorem e_is_stretch (KX : K.In h) (G : h.Ns mainGlobals mg) (c : SaysF fa fn fx K) : Core P w K mg base (He.fAd K ((Str.ofString "is_stretch"), none)) (Str.ofString "is_stretch") (Str.ofString "is_stretch") (defArgs s_is_stretch) (defBody s_is_stretch) sc_is_stretch (df_is_stretch.dvs K) (df_is_stretch.kws K) 4 P_is_stretch m_is_stretch := by
  obtain ⟨fd, F⟩ := c.d.def_ 11 (d := df_is_stretch) rfl
  refine core_mk (N := N_is_stretch) (ps := P_is_stretch) F so_is_stretch fun cdv A outer s H E hr => ?_
  have tk : Takes (cxOf (L2.CX P w) P w K mg base N_is_stretch (Str.ofString "is_stretch") sc_is_stretch (He.fAd K ((Str.ofString "is_stretch"), none)) cdv A outer s H E) (wDef E) := takes_of rfl rfl rfl rfl
  exact (sb_one (ss_ret (se_and (se_call (d_is_pair KX G c) (hr.mono (by omega)) tk g_is_stretch_0_is_pair (sr_var 0 n_is_stretch_thing v_is_stretch_0_thing sr_nil)) (se_and (se_cmp os_lt (se_glob (glb_con KX G (c.get 10 rfl)) g_is_stretch_0_FIRST) (se_ixN 0 n_is_stretch_thing v_is_stretch_0_thing se_int) (nomark _)) (se_and (se_cmp os_lt (se_ixN 0 n_is_stretch_thing v_is_stretch_0_thing se_int) (se_glob (glb_con KX G (c.get 9 rfl)) g_is_stretch_0_LAST) (nomark _)) (se_one (se_cmp os_le (se_ixN 0 n_is_stretch_thing v_is_stretch_0_thing se_int) (se_ixN 0 n_is_stretch_thing v_is_stretch_0_thing se_int) (nomark _))))))))
theorem d_is_stretch (KX : K.In h) (G : h.Ns mainGlobals mg) (c : SaysF fa fn fx K) : Dfn P w K mg base "is_stretch" 4 m_is_stretch [] := dfn_core (e_is_stretch KX G c) (He.glo_ok KX G (c.d.fact 30 rfl)) (fun _ _ _ _ _ _ us hl => match us, hl with | [_], _ => rfl)
theorem e_is_ends (KX : K.In h) (G : h.Ns mainGlobals mg) (c : SaysF fa fn fx K) : Core P w K mg base (He.fAd K ((Str.ofString "is_ends"), none)) (Str.ofString "is_ends") (Str.ofString "is_ends") (defArgs s_is_ends) (defBody s_is_ends) sc_is_ends (df_is_ends.dvs K) (df_is_ends.kws K) 1 P_is_ends m_is_ends := by
  obtain ⟨fd, F⟩ := c.d.def_ 12 (d := df_is_ends) rfl
  refine core_mk (N := N_is_ends) (ps := P_is_ends) F so_is_ends fun cdv A outer s H E hr => ?_
  have tk : Takes (cxOf (L2.CX P w) P w K mg base N_is_ends (Str.ofString "is_ends") sc_is_ends (He.fAd K ((Str.ofString "is_ends"), none)) cdv A outer s H E) (wDef E) := takes_of rfl rfl rfl rfl
  exact (sb_one (ss_ret (se_and (se_callB (cs_isi (kitT KX G c)) (He.free_ok KX G (c.d.fact 21 rfl)) g_is_ends_0_isinstance (by decide +kernel) (sa_cons (se_var 0 n_is_ends_thing v_is_ends_0_thing) (sa_cons (se_ty (He.free_ok KX G (c.d.fact 31 rfl)) g_is_ends_0_str (by decide +kernel)) sa_nil))) (se_one (se_cmp os_in (se_var 0 n_is_ends_thing v_is_ends_0_thing) (se_tup (sa_cons (se_ccon (c.get 13 rfl) (se_glob (glb_con KX G (c.get 11 rfl)) g_is_ends_0_Ends)) (sa_cons (se_ccon (c.get 12 rfl) (se_glob (glb_con KX G (c.get 11 rfl)) g_is_ends_0_Ends)) sa_nil))) (by rfl))))))
theorem d_is_ends (KX : K.In h) (G : h.Ns mainGlobals mg) (c : SaysF fa fn fx K) : Dfn P w K mg base "is_ends" 1 m_is_ends [] := dfn_core (e_is_ends KX G c) (He.glo_ok KX G (c.d.fact 32 rfl)) (fun _ _ _ _ _ _ us hl => match us, hl with | [_], _ => rfl)
theorem e_check_ends (KX : K.In h) (G : h.Ns mainGlobals mg) (c : SaysF fa fn fx K) : Core P w K mg base (He.fAd K ((Str.ofString "check_ends"), none)) (Str.ofString "check_ends") (Str.ofString "check_ends") (defArgs s_check_ends) (defBody s_check_ends) sc_check_ends (df_check_ends.dvs K) (df_check_ends.kws K) 3 P_check_ends m_check_ends := by
  obtain ⟨fd, F⟩ := c.d.def_ 13 (d := df_check_ends) rfl
  refine core_mk (N := N_check_ends) (ps := P_check_ends) F so_check_ends fun cdv A outer s H E hr => ?_
  have tk : Takes (cxOf (L2.CX P w) P w K mg base N_check_ends (Str.ofString "check_ends") sc_check_ends (He.fAd K ((Str.ofString "check_ends"), none)) cdv A outer s H E) (wDef E) := takes_of rfl rfl rfl rfl
  exact (sb_one (ss_if (st_not (st_tru (se_call (d_is_ends KX G c) (hr.mono (by omega)) tk g_check_ends_0_is_ends (sr_var 0 n_check_ends_ends v_check_ends_0_ends sr_nil)))) (sb_one (ss_raise (xs_BadEnds KX G c) (hr.mono (by omega)) rfl tk g_check_ends_0_BadEnds (se_var 0 n_check_ends_ends v_check_ends_0_ends))) sb_nil))
theorem d_check_ends (KX : K.In h) (G : h.Ns mainGlobals mg) (c : SaysF fa fn fx K) : Dfn P w K mg base "check_ends" 3 m_check_ends [] := dfn_core (e_check_ends KX G c) (He.glo_ok KX G (c.d.fact 33 rfl)) (fun _ _ _ _ _ _ us hl => match us, hl with | [_], _ => rfl)
theorem e_check_spans (KX : K.In h) (G : h.Ns mainGlobals mg) (c : SaysF fa fn fx K) : Core P w K mg base (He.fAd K ((Str.ofString "check_spans"), none)) (Str.ofString "check_spans") (Str.ofString "check_spans") (defArgs s_check_spans) (defBody s_check_spans) sc_check_spans (df_check_spans.dvs K) (df_check_spans.kws K) 5 P_check_spans m_check_spans := by
  obtain ⟨fd, F⟩ := c.d.def_ 14 (d := df_check_spans) rfl
  refine core_mk (N := N_check_spans) (ps := P_check_spans) F so_check_spans fun cdv A outer s H E hr => ?_
  have tk : Takes (cxOf (L2.CX P w) P w K mg base N_check_spans (Str.ofString "check_spans") sc_check_spans (He.fAd K ((Str.ofString "check_spans"), none)) cdv A outer s H E) (wDef E) := takes_of rfl rfl rfl rfl
  exact (sb_one (ss_for (passes_of rfl) rfl (si_enum (He.free_ok KX G (c.d.fact 34 rfl)) g_check_spans_0_enumerate (se_var 0 n_check_spans_spans v_check_spans_0_spans)) (sg_tup (n := 2) rfl (sgs_cons (sg_name 1 nd_check_spans n_check_spans_index l_check_spans_0_index (Or.inl rfl)) (sgs_cons (sg_name 2 nd_check_spans n_check_spans_span l_check_spans_0_span (Or.inl rfl)) sgs_nil)) rfl) (sb_one (ss_if (st_not (st_tru (se_call (d_is_stretch KX G c) (hr.mono (by omega)) tk g_check_spans_0_is_stretch (sr_var 2 n_check_spans_span v_check_spans_0_span sr_nil)))) (sb_one (ss_raise (xs_BadItem KX G c) (hr.mono (by omega)) rfl tk g_check_spans_0_BadItem (se_var 1 n_check_spans_index v_check_spans_0_index))) sb_nil))))
theorem d_check_spans (KX : K.In h) (G : h.Ns mainGlobals mg) (c : SaysF fa fn fx K) : Dfn P w K mg base "check_spans" 5 m_check_spans [] := dfn_core (e_check_spans KX G c) (He.glo_ok KX G (c.d.fact 35 rfl)) (fun _ _ _ _ _ _ us hl => match us, hl with | [_], _ => rfl)
theorem e_is_empty (KX : K.In h) (G : h.Ns mainGlobals mg) (c : SaysF fa fn fx K) : Core P w K mg base (He.fAd K ((Str.ofString "is_empty"), none)) (Str.ofString "is_empty") (Str.ofString "is_empty") (defArgs s_is_empty) (defBody s_is_empty) sc_is_empty (df_is_empty.dvs K) (df_is_empty.kws K) 4 P_is_empty m_is_empty := by
  obtain ⟨fd, F⟩ := c.d.def_ 15 (d := df_is_empty) rfl
  refine core_mk (N := N_is_empty) (ps := P_is_empty) F so_is_empty fun cdv A outer s H E hr => ?_
  have tk : Takes (cxOf (L2.CX P w) P w K mg base N_is_empty (Str.ofString "is_empty") sc_is_empty (He.fAd K ((Str.ofString "is_empty"), none)) cdv A outer s H E) (wDef E) := takes_of rfl rfl rfl rfl
  exact (sb_cons (ss_expr (se_call (d_check_ends KX G c) (hr.mono (by omega)) tk g_is_empty_0_check_ends (sr_var 1 n_is_empty_ends v_is_empty_0_ends sr_nil))) (sb_one (ss_ret (se_or (se_cmp os_gt (se_ixN 0 n_is_empty_pair v_is_empty_0_pair se_int) (se_ixN 0 n_is_empty_pair v_is_empty_0_pair se_int) (nomark _)) (se_one (se_and (se_cmp (os_eq hr.units) (se_var 1 n_is_empty_ends v_is_empty_0_ends) (se_ccon (c.get 13 rfl) (se_glob (glb_con KX G (c.get 11 rfl)) g_is_empty_0_Ends)) (nomark _)) (se_one (se_cmp (os_eq hr.units) (se_ixN 0 n_is_empty_pair v_is_empty_0_pair se_int) (se_ixN 0 n_is_empty_pair v_is_empty_0_pair se_int) (nomark _)))))))))
theorem si_is_empty_2 (KX : K.In h) (G : h.Ns mainGlobals mg) (c : SaysF fa fn fx K) : Site P w K mg base (He.fAd K ((Str.ofString "is_empty"), none)) 4 2 [] m_is_empty [.inl 0, .inl 1] := by
  obtain ⟨fd, F, W⟩ := e_is_empty KX G c
  obtain ⟨ds, hd, hb⟩ := F.binds1 (ps := P_is_empty) 2 1 (fun z => by cases z) rfl (fun T kV doc pm an cdv ct us its h1 h2 => match us, its, h1, h2 with | [u0, u1], [d0], _, _ => ⟨_, rfl, rfl⟩)
  exact ⟨fd, P_is_empty, [.inl 0, .inl 1], W, Bd.of_binds hb hd rfl (fun vs l => match vs, l with | [u0, u1], _ => rfl), (.cons (show _ = _ from rfl) (.cons (show _ = _ from rfl) .nil))⟩
theorem fs_is_empty_2 (KX : K.In h) (G : h.Ns mainGlobals mg) (c : SaysF fa fn fx K) : Fsite P w K mg base "is_empty" 4 2 [] m_is_empty [.inl 0, .inl 1] := fsite_mk (e_is_empty KX G c) (si_is_empty_2 KX G c) (He.glo_ok KX G (c.d.fact 73 rfl))
theorem e_union (KX : K.In h) (G : h.Ns mainGlobals mg) (c : SaysF fa fn fx K) : Core P w K mg base (He.fAd K ((Str.ofString "union"), none)) (Str.ofString "union") (Str.ofString "union") (defArgs s_union) (defBody s_union) sc_union (df_union.dvs K) (df_union.kws K) 6 P_union m_union := by
  obtain ⟨fd, F⟩ := c.d.def_ 16 (d := df_union) rfl
  refine core_mk (N := N_union) (ps := P_union) F so_union fun cdv A outer s H E hr => ?_
  have tk : Takes (cxOf (L2.CX P w) P w K mg base N_union (Str.ofString "union") sc_union (He.fAd K ((Str.ofString "union"), none)) cdv A outer s H E) (wDef E) := takes_of rfl rfl rfl rfl
  exact (sb_cons (ss_expr (se_call (d_check_spans KX G c) (hr.mono (by omega)) tk g_union_0_check_spans (sr_var 0 n_union_spans v_union_0_spans sr_nil))) (sb_cons (ss_expr (se_call (d_check_ends KX G c) (hr.mono (by omega)) tk g_union_0_check_ends (sr_var 1 n_union_ends v_union_0_ends sr_nil))) (sb_cons (ss_setF 2 nd_union n_union_found l_union_0_found (Or.inl rfl) (sef_lst sa_nil)) (sb_cons (ss_for (passes_of rfl) rfl (si_any (se_callB cs_sortP (He.free_ok KX G (c.d.fact 36 rfl)) g_union_0_sorted (by decide +kernel) (sa_cons (se_fz (sef_comp (own := [((Str.ofString "span"), 5)]) rfl nd_union (si_any (se_var 0 n_union_spans v_union_0_spans)) (blkOk_by (N := N_union) (sc := sc_union) (scope := sc_union_1r) (by decide +kernel)) (by decide) (fun _ _ _ _ _ => (sg_name 5 nd_union n_union_span l_union_1_span (Or.inr il_union_1_span))) (fun _ _ _ _ _ => (sts_one (st_not (st_tru (se_fsite (fs_is_empty_2 KX G c) (hr.mono (by omega)) takes0 g_union_1_is_empty (sc_pos 2 (sr_var 5 n_union_span v_union_1_span (sr_var 1 n_union_ends v_union_1_ends sr_nil)))))))) (fun _ _ _ _ _ => (se_var 5 n_union_span v_union_1_span)))) sa_nil))) (sg_tup (n := 2) rfl (sgs_cons (sg_name 3 nd_union n_union_begin l_union_0_begin (Or.inl rfl)) (sgs_cons (sg_name 4 nd_union n_union_end l_union_0_end (Or.inl rfl)) sgs_nil)) rfl) (sb_one (ss_if (st_w (stw_and (st_truN 2 n_union_found v_union_0_found) (stw_and1 (st_cmp os_le (se_var 3 n_union_begin v_union_0_begin) (se_ix (se_ixN 2 n_union_found v_union_0_found (se_un us_neg se_int)) se_int) (nomark _))))) (sb_one (ss_setAt 2 n_union_found v_union_0_found (se_tup (sa_cons (se_ix (se_ixN 2 n_union_found v_union_0_found (se_un us_neg se_int)) se_int) (sa_cons (se_callB (cs_max2 rfl) (He.free_ok KX G (c.d.fact 37 rfl)) g_union_0_max (by decide +kernel) (sa_cons (se_ix (se_ixN 2 n_union_found v_union_0_found (se_un us_neg se_int)) se_int) (sa_cons (se_var 4 n_union_end v_union_0_end) sa_nil))) sa_nil))) (se_un us_neg se_int))) (sb_one (ss_app 2 n_union_found v_union_0_found (se_tup (sa_cons (se_var 3 n_union_begin v_union_0_begin) (sa_cons (se_var 4 n_union_end v_union_0_end) sa_nil)))))))) (sb_one (ss_retV 2 n_union_found v_union_0_found))))))
theorem si_union_1 (KX : K.In h) (G : h.Ns mainGlobals mg) (c : SaysF fa fn fx K) : Site P w K mg base (He.fAd K ((Str.ofString "union"), none)) 6 1 [] m_union [.inl 0, .inr (.str (Str.ofString "half"))] := by
  obtain ⟨fd, F, W⟩ := e_union KX G c
  obtain ⟨ds, hd, hb⟩ := F.binds1 (ps := P_union) 1 0 (fun z => by cases z) rfl (fun T kV doc pm an cdv ct us its h1 h2 => match us, its, h1, h2 with | [u0], [d0], _, _ => ⟨_, rfl, rfl⟩)
  exact ⟨fd, P_union, [.inl 0, .inr (.str (Str.ofString "half"))], W, Bd.of_binds hb hd rfl (fun vs l => match vs, l with | [u0], _ => rfl), (.cons (show _ = _ from rfl) (.cons (show R K (fun _ => none) (.str (Str.ofString "half")) _ from (R_str.mpr rfl)) .nil))⟩
theorem fs_union_1 (KX : K.In h) (G : h.Ns mainGlobals mg) (c : SaysF fa fn fx K) : Fsite P w K mg base "union" 6 1 [] m_union [.inl 0, .inr (.str (Str.ofString "half"))] := fsite_mk (e_union KX G c) (si_union_1 KX G c) (He.glo_ok KX G (c.d.fact 74 rfl))
theorem e_checked_edge (KX : K.In h) (G : h.Ns mainGlobals mg) (c : SaysF fa fn fx K) : Core P w K mg base (He.fAd K ((Str.ofString "checked_edge"), none)) (Str.ofString "checked_edge") (Str.ofString "checked_edge") (defArgs s_checked_edge) (defBody s_checked_edge) sc_checked_edge (df_checked_edge.dvs K) (df_checked_edge.kws K) 3 P_checked_edge m_checked_edge := by
  obtain ⟨fd, F⟩ := c.d.def_ 17 (d := df_checked_edge) rfl
  refine core_mk (N := N_checked_edge) (ps := P_checked_edge) F so_checked_edge fun cdv A outer s H E hr => ?_
  have tk : Takes (cxOf (L2.CX P w) P w K mg base N_checked_edge (Str.ofString "checked_edge") sc_checked_edge (He.fAd K ((Str.ofString "checked_edge"), none)) cdv A outer s H E) (wDef E) := takes_of rfl rfl rfl rfl
  exact (sb_cons (ss_if (st_not (st_tru (se_call (d_is_near KX G c) (hr.mono (by omega)) tk g_checked_edge_0_is_near (sr_var 0 n_checked_edge_edge v_checked_edge_0_edge sr_nil)))) (sb_one (ss_raise (xs_TooFar KX G c) (hr.mono (by omega)) rfl tk g_checked_edge_0_TooFar (se_var 0 n_checked_edge_edge v_checked_edge_0_edge))) sb_nil) (sb_one (ss_retV 0 n_checked_edge_edge v_checked_edge_0_edge)))
theorem d_checked_edge (KX : K.In h) (G : h.Ns mainGlobals mg) (c : SaysF fa fn fx K) : Dfn P w K mg base "checked_edge" 3 m_checked_edge [] := dfn_core (e_checked_edge KX G c) (He.glo_ok KX G (c.d.fact 38 rfl)) (fun _ _ _ _ _ _ us hl => match us, hl with | [_], _ => rfl)
theorem e_held_between (KX : K.In h) (G : h.Ns mainGlobals mg) (c : SaysF fa fn fx K) : Core P w K mg base (He.fAd K ((Str.ofString "held_between"), none)) (Str.ofString "held_between") (Str.ofString "held_between") (defArgs s_held_between) (defBody s_held_between) sc_held_between (df_held_between.dvs K) (df_held_between.kws K) 1 P_held_between m_held_between := by
  obtain ⟨fd, F⟩ := c.d.def_ 18 (d := df_held_between) rfl
  refine core_mk (N := N_held_between) (ps := P_held_between) F so_held_between fun cdv A outer s H E hr => ?_
  have tk : Takes (cxOf (L2.CX P w) P w K mg base N_held_between (Str.ofString "held_between") sc_held_between (He.fAd K ((Str.ofString "held_between"), none)) cdv A outer s H E) (wDef E) := takes_of rfl rfl rfl rfl
  exact (sb_one (ss_ret (se_callB (cs_sum rfl) (He.free_ok KX G (c.d.fact 40 rfl)) g_held_between_0_sum (by decide +kernel) (sa_cons (se_fz (sef_comp (own := [((Str.ofString "left"), 3), ((Str.ofString "right"), 4)]) rfl nd_held_between (si_any (se_var 0 n_held_between_spans v_held_between_0_spans)) (blkOk_by (N := N_held_between) (sc := sc_held_between) (scope := sc_held_between_1r) (by decide +kernel)) (by decide) (fun _ _ _ _ _ => (sg_tup (n := 2) rfl (sgs_cons (sg_name 3 nd_held_between n_held_between_left l_held_between_1_left (Or.inr il_held_between_1_left)) (sgs_cons (sg_name 4 nd_held_between n_held_between_right l_held_between_1_right (Or.inr il_held_between_1_right)) sgs_nil)) rfl)) (fun _ _ _ _ _ => sts_nil) (fun _ _ _ _ _ => (se_callB (cs_max2 rfl) (He.free_ok KX G (c.d.fact 37 rfl)) g_held_between_1_max (by decide +kernel) (sa_cons se_int (sa_cons (se_op os_sub (se_callB (cs_min2 rfl) (He.free_ok KX G (c.d.fact 39 rfl)) g_held_between_1_min (by decide +kernel) (sa_cons (se_var 2 n_held_between_end v_held_between_1_end) (sa_cons (se_var 4 n_held_between_right v_held_between_1_right) sa_nil))) (se_callB (cs_max2 rfl) (He.free_ok KX G (c.d.fact 37 rfl)) g_held_between_1_max (by decide +kernel) (sa_cons (se_var 1 n_held_between_begin v_held_between_1_begin) (sa_cons (se_var 3 n_held_between_left v_held_between_1_left) sa_nil)))) sa_nil)))))) sa_nil))))
theorem d_held_between (KX : K.In h) (G : h.Ns mainGlobals mg) (c : SaysF fa fn fx K) : Dfn P w K mg base "held_between" 1 m_held_between [] := dfn_core (e_held_between KX G c) (He.glo_ok KX G (c.d.fact 41 rfl)) (fun _ _ _ _ _ _ us hl => match us, hl with | [_, _, _], _ => rfl)
theorem e_Days___init (KX : K.In h) (G : h.Ns mainGlobals mg) (c : SaysF fa fn fx K) : Core P w K mg base (He.fAd K ((Str.ofString "Days"), some (Str.ofString "__init__"))) (Str.ofString "__init__") (Str.ofString "Days.__init__") (defArgs s_Days___init) (defBody s_Days___init) sc_Days___init (df_Days___init.dvs K) (df_Days___init.kws K) 3 P_Days___init m_Days___init := by
  obtain ⟨fd, F⟩ := c.d.def_ 19 (d := df_Days___init) rfl
  refine core_mk (N := N_Days___init) (ps := P_Days___init) F so_Days___init fun cdv A outer s H E hr => ?_
  have tk : Takes (cxOf (L2.CX P w) P w K mg base N_Days___init (Str.ofString "Days.__init__") sc_Days___init (He.fAd K ((Str.ofString "Days"), some (Str.ofString "__init__"))) cdv A outer s H E) (wDef E) := takes_of rfl rfl rfl rfl
  exact (sb_cons (ss_if (st_w (stw_or (st_not (st_tru (se_call (d_is_integer KX G c) (hr.mono (by omega)) tk g_Days___init_0_is_integer (sr_var 1 n_Days___init_length v_Days___init_0_length sr_nil)))) (stw_or1 (st_not (st_chain os_le os_le se_int (se_var 1 n_Days___init_length v_Days___init_0_length) (se_glob (glb_con KX G (c.get 14 rfl)) g_Days___init_0_LONGEST) (by with_unfolding_all rfl)))))) (sb_one (ss_raise (xs_BadDay KX G c) (hr.mono (by omega)) rfl tk g_Days___init_0_BadDay (se_var 1 n_Days___init_length v_Days___init_0_length))) sb_nil) (sb_cons (ss_if (st_w (stw_or (st_not (st_tru (se_call (d_is_integer KX G c) (hr.mono (by omega)) tk g_Days___init_0_is_integer (sr_var 2 n_Days___init_offset v_Days___init_0_offset sr_nil)))) (stw_or1 (st_not (st_chain os_le os_lt se_int (se_var 2 n_Days___init_offset v_Days___init_0_offset) (se_var 1 n_Days___init_length v_Days___init_0_length) (by with_unfolding_all rfl)))))) (sb_one (ss_raise (xs_BadDay KX G c) (hr.mono (by omega)) rfl tk g_Days___init_0_BadDay (se_var 2 n_Days___init_offset v_Days___init_0_offset))) sb_nil) (sb_cons (ss_put 0 (at_cons (He.cls_ok (c.d.fact 42 rfl)) (He.noat_ok (c.d.fact 43 rfl)) at_nil) n_Days___init_self v_Days___init_0_self (se_var 1 n_Days___init_length v_Days___init_0_length)) (sb_one (ss_put 0 (at_cons (He.cls_ok (c.d.fact 42 rfl)) (He.noat_ok (c.d.fact 44 rfl)) at_nil) n_Days___init_self v_Days___init_0_self (se_var 2 n_Days___init_offset v_Days___init_0_offset))))))
theorem si_Days___init_2_offset (KX : K.In h) (G : h.Ns mainGlobals mg) (c : SaysF fa fn fx K) : Site P w K mg base (He.fAd K ((Str.ofString "Days"), some (Str.ofString "__init__"))) 3 2 [(Str.ofString "offset")] m_Days___init [.inl 0, .inl 1, .inl 2] := by
  obtain ⟨fd, F, W⟩ := e_Days___init KX G c
  obtain ⟨its, mv, hb⟩ := F.kbinds (ps := P_Days___init) 2 [(Str.ofString "offset")] [] (fun us its mv ws => us ++ (ws)) (fun z => by cases z) (fun z => by cases z) (fun q hq => by cases hq) (fun r1 r2 r3 r4 => (r1.append r4)) (fun T D doc pm an cdv ct us its mv ws h1 h2 h3 h4 => match us, its, mv, ws, h1, h2, h3, h4 with | [u0, u1], [d0], [], [w0], _, _, _, _ => ⟨_, rfl, rfl⟩)
  exact ⟨fd, P_Days___init, [.inl 0, .inl 1, .inl 2], W, Bd.of_kbn hb (fun vs zs l1 l2 => match vs, zs, l1, l2 with | [u0, u1], [w0], _, _ => rfl), (.cons (show _ = _ from rfl) (.cons (show _ = _ from rfl) (.cons (show _ = _ from rfl) .nil)))⟩
theorem cs_Days___init_2_offset (KX : K.In h) (G : h.Ns mainGlobals mg) (c : SaysF fa fn fx K) : CSite P w K mg base "Days" 3 1 [(Str.ofString "offset")] m_Days___init [.inl 0, .inl 1, .inl 2] := ⟨_, He.mkr_ok (c.d.fact 75 rfl), si_Days___init_2_offset KX G c⟩
theorem e_Days_bounds (KX : K.In h) (G : h.Ns mainGlobals mg) (c : SaysF fa fn fx K) : Core P w K mg base (He.fAd K ((Str.ofString "Days"), some (Str.ofString "bounds"))) (Str.ofString "bounds") (Str.ofString "Days.bounds") (defArgs s_Days_bounds) (defBody s_Days_bounds) sc_Days_bounds (df_Days_bounds.dvs K) (df_Days_bounds.kws K) 4 P_Days_bounds m_Days_bounds := by
  obtain ⟨fd, F⟩ := c.d.def_ 20 (d := df_Days_bounds) rfl
  refine core_mk (N := N_Days_bounds) (ps := P_Days_bounds) F so_Days_bounds fun cdv A outer s H E hr => ?_
  have tk : Takes (cxOf (L2.CX P w) P w K mg base N_Days_bounds (Str.ofString "Days.bounds") sc_Days_bounds (He.fAd K ((Str.ofString "Days"), some (Str.ofString "bounds"))) cdv A outer s H E) (wDef E) := takes_of rfl rfl rfl rfl
  exact (sb_cons (ss_set 2 nd_Days_bounds n_Days_bounds_begin l_Days_bounds_0_begin (Or.inl rfl) (se_op os_add (se_fld (at_cons (He.cls_ok (c.d.fact 42 rfl)) (He.noat_ok (c.d.fact 44 rfl)) at_nil) (so_var 0 n_Days_bounds_self v_Days_bounds_0_self)) (se_op os_mulI (se_var 1 n_Days_bounds_number v_Days_bounds_0_number) (se_fld (at_cons (He.cls_ok (c.d.fact 42 rfl)) (He.noat_ok (c.d.fact 43 rfl)) at_nil) (so_var 0 n_Days_bounds_self v_Days_bounds_0_self))))) (sb_one (ss_ret (se_tup (sa_cons (se_call (d_checked_edge KX G c) (hr.mono (by omega)) tk g_Days_bounds_0_checked_edge (sr_var 2 n_Days_bounds_begin v_Days_bounds_0_begin sr_nil)) (sa_cons (se_call (d_checked_edge KX G c) (hr.mono (by omega)) tk g_Days_bounds_0_checked_edge (sr_cons (se_op os_add (se_var 2 n_Days_bounds_begin v_Days_bounds_0_begin) (se_fld (at_cons (He.cls_ok (c.d.fact 42 rfl)) (He.noat_ok (c.d.fact 43 rfl)) at_nil) (so_var 0 n_Days_bounds_self v_Days_bounds_0_self))) sr_nil)) sa_nil))))))
theorem si_Days_bounds_2 (KX : K.In h) (G : h.Ns mainGlobals mg) (c : SaysF fa fn fx K) : Site P w K mg base (He.fAd K ((Str.ofString "Days"), some (Str.ofString "bounds"))) 4 2 [] m_Days_bounds (ids 2) := by
  exact site_all (e_Days_bounds KX G c) rfl (fun _ _ _ _ _ _ us hl => match us, hl with | [_, _], _ => rfl)
theorem ms_Days_bounds_2 (KX : K.In h) (G : h.Ns mainGlobals mg) (c : SaysF fa fn fx K) : MSite P w K mg base "bounds" 4 1 [] ⟨"Days", m_Days_bounds, (ids 2)⟩ := ⟨_, He.cls_ok (c.d.fact 42 rfl), He.meth_ok (c.d.fact 76 rfl), si_Days_bounds_2 KX G c⟩
theorem e_Days_check_columns (KX : K.In h) (G : h.Ns mainGlobals mg) (c : SaysF fa fn fx K) : Core P w K mg base (He.fAd K ((Str.ofString "Days"), some (Str.ofString "check_columns"))) (Str.ofString "check_columns") (Str.ofString "Days.check_columns") (defArgs s_Days_check_columns) (defBody s_Days_check_columns) sc_Days_check_columns (df_Days_check_columns.dvs K) (df_Days_check_columns.kws K) 3 P_Days_check_columns m_Days_check_columns := by
  obtain ⟨fd, F⟩ := c.d.def_ 21 (d := df_Days_check_columns) rfl
  refine core_mk (N := N_Days_check_columns) (ps := P_Days_check_columns) F so_Days_check_columns fun cdv A outer s H E hr => ?_
  have tk : Takes (cxOf (L2.CX P w) P w K mg base N_Days_check_columns (Str.ofString "Days.check_columns") sc_Days_check_columns (He.fAd K ((Str.ofString "Days"), some (Str.ofString "check_columns"))) cdv A outer s H E) (wDef E) := takes_of rfl rfl rfl rfl
  exact (sb_one (ss_if (st_w (stw_or (st_not (st_tru (se_call (d_is_integer KX G c) (hr.mono (by omega)) tk g_Days_check_columns_0_is_integer (sr_var 1 n_Days_check_columns_columns v_Days_check_columns_0_columns sr_nil)))) (stw_or (st_not (st_chain os_le os_le se_int (se_var 1 n_Days_check_columns_columns v_Days_check_columns_0_columns) (se_glob (glb_con KX G (c.get 15 rfl)) g_Days_check_columns_0_MOST_COLUMNS) (by with_unfolding_all rfl))) (stw_or1 (st_cmp (os_ne hr.units) (se_op os_mod (se_fld (at_cons (He.cls_ok (c.d.fact 42 rfl)) (He.noat_ok (c.d.fact 43 rfl)) at_nil) (so_var 0 n_Days_check_columns_self v_Days_check_columns_0_self)) (se_var 1 n_Days_check_columns_columns v_Days_check_columns_0_columns)) se_int (nomark _)))))) (sb_one (ss_raise (xs_BadColumns KX G c) (hr.mono (by omega)) rfl tk g_Days_check_columns_0_BadColumns (se_var 1 n_Days_check_columns_columns v_Days_check_columns_0_columns))) sb_nil))
theorem si_Days_check_columns_2 (KX : K.In h) (G : h.Ns mainGlobals mg) (c : SaysF fa fn fx K) : Site P w K mg base (He.fAd K ((Str.ofString "Days"), some (Str.ofString "check_columns"))) 3 2 [] m_Days_check_columns (ids 2) := by
  exact site_all (e_Days_check_columns KX G c) rfl (fun _ _ _ _ _ _ us hl => match us, hl with | [_, _], _ => rfl)
theorem ms_Days_check_columns_2 (KX : K.In h) (G : h.Ns mainGlobals mg) (c : SaysF fa fn fx K) : MSite P w K mg base "check_columns" 3 1 [] ⟨"Days", m_Days_check_columns, (ids 2)⟩ := ⟨_, He.cls_ok (c.d.fact 42 rfl), He.meth_ok (c.d.fact 77 rfl), si_Days_check_columns_2 KX G c⟩
theorem e_Days_drawn (KX : K.In h) (G : h.Ns mainGlobals mg) (c : SaysF fa fn fx K) : Core P w K mg base (He.fAd K ((Str.ofString "Days"), some (Str.ofString "drawn"))) (Str.ofString "drawn") (Str.ofString "Days.drawn") (defArgs s_Days_drawn) (defBody s_Days_drawn) sc_Days_drawn (df_Days_drawn.dvs K) (df_Days_drawn.kws K) 7 P_Days_drawn m_Days_drawn := by
  obtain ⟨fd, F⟩ := c.d.def_ 22 (d := df_Days_drawn) rfl
  refine core_mk (N := N_Days_drawn) (ps := P_Days_drawn) F so_Days_drawn fun cdv A outer s H E hr => ?_
  have tk : Takes (cxOf (L2.CX P w) P w K mg base N_Days_drawn (Str.ofString "Days.drawn") sc_Days_drawn (He.fAd K ((Str.ofString "Days"), some (Str.ofString "drawn"))) cdv A outer s H E) (wDef E) := takes_of rfl rfl rfl rfl
  exact (sb_cons (ss_expr (se_call (d_check_spans KX G c) (hr.mono (by omega)) tk g_Days_drawn_0_check_spans (sr_var 1 n_Days_drawn_spans v_Days_drawn_0_spans sr_nil))) (sb_cons (ss_expr (se_meth (k := 3) (so_var 0 n_Days_drawn_self v_Days_drawn_0_self) (all_cons ((ms_Days_check_columns_2 KX G c).mono (by omega)) all_nil) (hr.mono (by omega)) tk (sc_pos 1 (sr_var 3 n_Days_drawn_columns v_Days_drawn_0_columns sr_nil)))) (sb_cons (ss_asg (sg_tup (n := 2) rfl (sgs_cons (sg_name 4 nd_Days_drawn n_Days_drawn_begin l_Days_drawn_0_begin (Or.inl rfl)) (sgs_cons (sg_name 5 nd_Days_drawn n_Days_drawn_end l_Days_drawn_0_end (Or.inl rfl)) sgs_nil)) rfl) (se_meth (k := 4) (so_var 0 n_Days_drawn_self v_Days_drawn_0_self) (all_cons ((ms_Days_bounds_2 KX G c).mono (by omega)) all_nil) (hr.mono (by omega)) tk (sc_pos 1 (sr_var 2 n_Days_drawn_number v_Days_drawn_0_number sr_nil)))) (sb_cons (ss_setLc 6 (own := [((Str.ofString "left"), 12), ((Str.ofString "right"), 13)]) rfl nd_Days_drawn n_Days_drawn_rows il_Days_drawn_0_rows (by rfl) (si_any (se_fsite (fs_union_1 KX G c) (hr.mono (by omega)) tk g_Days_drawn_0_union (sc_pos 1 (sr_var 1 n_Days_drawn_spans v_Days_drawn_0_spans sr_nil)))) (blkOk_by (N := N_Days_drawn) (sc := sc_Days_drawn) (scope := sc_Days_drawn_1r) (by decide +kernel)) (by decide) (fun _ _ _ _ _ => (sg_tup (n := 2) rfl (sgs_cons (sg_name 12 nd_Days_drawn n_Days_drawn_left l_Days_drawn_1_left (Or.inr il_Days_drawn_1_left)) (sgs_cons (sg_name 13 nd_Days_drawn n_Days_drawn_right l_Days_drawn_1_right (Or.inr il_Days_drawn_1_right)) sgs_nil)) rfl)) (fun _ _ _ _ _ => (sts_one (st_w (stw_and (st_cmp os_lt (se_var 12 n_Days_drawn_left v_Days_drawn_1_left) (se_var 5 n_Days_drawn_end v_Days_drawn_1_end) (nomark _)) (stw_and1 (st_cmp os_gt (se_var 13 n_Days_drawn_right v_Days_drawn_1_right) (se_var 4 n_Days_drawn_begin v_Days_drawn_1_begin) (nomark _))))))) (fun _ _ _ _ _ => (se_tup (sa_cons (se_var 12 n_Days_drawn_left v_Days_drawn_1_left) (sa_cons (se_var 13 n_Days_drawn_right v_Days_drawn_1_right) sa_nil))))) (sb_cons (ss_set 7 nd_Days_drawn n_Days_drawn_wide l_Days_drawn_0_wide (Or.inl rfl) (se_op os_fdiv (se_fld (at_cons (He.cls_ok (c.d.fact 42 rfl)) (He.noat_ok (c.d.fact 43 rfl)) at_nil) (so_var 0 n_Days_drawn_self v_Days_drawn_0_self)) (se_var 3 n_Days_drawn_columns v_Days_drawn_0_columns))) (sb_cons (ss_set 8 nd_Days_drawn n_Days_drawn_found l_Days_drawn_0_found (Or.inl rfl) se_str) (sb_cons (ss_for (passes_of rfl) rfl (si_rng1 (He.free_ok KX G (c.d.fact 45 rfl)) g_Days_drawn_0_range (sa_cons (se_var 3 n_Days_drawn_columns v_Days_drawn_0_columns) sa_nil)) (sg_name 9 nd_Days_drawn n_Days_drawn_column l_Days_drawn_0_column (Or.inl rfl)) (sb_cons (ss_set 10 nd_Days_drawn n_Days_drawn_start l_Days_drawn_0_start (Or.inl rfl) (se_op os_add (se_var 4 n_Days_drawn_begin v_Days_drawn_0_begin) (se_op os_mulI (se_var 9 n_Days_drawn_column v_Days_drawn_0_column) (se_var 7 n_Days_drawn_wide v_Days_drawn_0_wide)))) (sb_cons (ss_set 11 nd_Days_drawn n_Days_drawn_held l_Days_drawn_0_held (Or.inl rfl) (se_call (d_held_between KX G c) (hr.mono (by omega)) tk g_Days_drawn_0_held_between (sr_var 6 n_Days_drawn_rows v_Days_drawn_0_rows (sr_var 10 n_Days_drawn_start v_Days_drawn_0_start (sr_cons (se_op os_add (se_var 10 n_Days_drawn_start v_Days_drawn_0_start) (se_var 7 n_Days_drawn_wide v_Days_drawn_0_wide)) sr_nil))))) (sb_one (ss_if (st_cmp (os_eq hr.units) (se_var 11 n_Days_drawn_held v_Days_drawn_0_held) se_int (nomark _)) (sb_one (ss_aug 8 ip_addIS nd_Days_drawn n_Days_drawn_found l_Days_drawn_0_found (Or.inl rfl) se_str)) (sb_one (ss_aug 8 ip_addIS nd_Days_drawn n_Days_drawn_found l_Days_drawn_0_found (Or.inl rfl) (se_if (st_cmp (os_eq hr.units) (se_var 11 n_Days_drawn_held v_Days_drawn_0_held) (se_var 7 n_Days_drawn_wide v_Days_drawn_0_wide) (nomark _)) se_str se_str)))))))) (sb_one (ss_retV 8 n_Days_drawn_found v_Days_drawn_0_found)))))))))
theorem si_Days_drawn_3 (KX : K.In h) (G : h.Ns mainGlobals mg) (c : SaysF fa fn fx K) : Site P w K mg base (He.fAd K ((Str.ofString "Days"), some (Str.ofString "drawn"))) 7 3 [] m_Days_drawn [.inl 0, .inl 1, .inl 2, .inr (.int 24)] := by
  obtain ⟨fd, F, W⟩ := e_Days_drawn KX G c
  obtain ⟨ds, hd, hb⟩ := F.binds1 (ps := P_Days_drawn) 3 0 (fun z => by cases z) rfl (fun T kV doc pm an cdv ct us its h1 h2 => match us, its, h1, h2 with | [u0, u1, u2], [d0], _, _ => ⟨_, rfl, rfl⟩)
  exact ⟨fd, P_Days_drawn, [.inl 0, .inl 1, .inl 2, .inr (.int 24)], W, Bd.of_binds hb hd rfl (fun vs l => match vs, l with | [u0, u1, u2], _ => rfl), (.cons (show _ = _ from rfl) (.cons (show _ = _ from rfl) (.cons (show _ = _ from rfl) (.cons (show R K (fun _ => none) (.int 24) _ from (R_int.mpr rfl)) .nil))))⟩
theorem ms_Days_drawn_3 (KX : K.In h) (G : h.Ns mainGlobals mg) (c : SaysF fa fn fx K) : MSite P w K mg base "drawn" 7 2 [] ⟨"Days", m_Days_drawn, [.inl 0, .inl 1, .inl 2, .inr (.int 24)]⟩ := ⟨_, He.cls_ok (c.d.fact 42 rfl), He.meth_ok (c.d.fact 78 rfl), si_Days_drawn_3 KX G c⟩
theorem si_Days_drawn_4 (KX : K.In h) (G : h.Ns mainGlobals mg) (c : SaysF fa fn fx K) : Site P w K mg base (He.fAd K ((Str.ofString "Days"), some (Str.ofString "drawn"))) 7 4 [] m_Days_drawn [.inl 0, .inl 1, .inl 2, .inl 3] := by
  obtain ⟨fd, F, W⟩ := e_Days_drawn KX G c
  obtain ⟨ds, hd, hb⟩ := F.binds1 (ps := P_Days_drawn) 4 1 (fun z => by cases z) rfl (fun T kV doc pm an cdv ct us its h1 h2 => match us, its, h1, h2 with | [u0, u1, u2, u3], [d0], _, _ => ⟨_, rfl, rfl⟩)
  exact ⟨fd, P_Days_drawn, [.inl 0, .inl 1, .inl 2, .inl 3], W, Bd.of_binds hb hd rfl (fun vs l => match vs, l with | [u0, u1, u2, u3], _ => rfl), (.cons (show _ = _ from rfl) (.cons (show _ = _ from rfl) (.cons (show _ = _ from rfl) (.cons (show _ = _ from rfl) .nil))))⟩
theorem ms_Days_drawn_4 (KX : K.In h) (G : h.Ns mainGlobals mg) (c : SaysF fa fn fx K) : MSite P w K mg base "drawn" 7 3 [] ⟨"Days", m_Days_drawn, [.inl 0, .inl 1, .inl 2, .inl 3]⟩ := ⟨_, He.cls_ok (c.d.fact 42 rfl), He.meth_ok (c.d.fact 78 rfl), si_Days_drawn_4 KX G c⟩
theorem e_law_bag (KX : K.In h) (G : h.Ns mainGlobals mg) (c : SaysF fa fn fx K) : Core P w K mg base (He.fAd K ((Str.ofString "_law_bag"), none)) (Str.ofString "_law_bag") (Str.ofString "_law_bag") (defArgs s_law_bag) (defBody s_law_bag) sc_law_bag (df_law_bag.dvs K) (df_law_bag.kws K) 1 P_law_bag m_law_bag := by
  obtain ⟨fd, F⟩ := c.d.def_ 23 (d := df_law_bag) rfl
  refine core_mk (N := N_law_bag) (ps := P_law_bag) F so_law_bag fun cdv A outer s H E hr => ?_
  have tk : Takes (cxOf (L2.CX P w) P w K mg base N_law_bag (Str.ofString "_law_bag") sc_law_bag (He.fAd K ((Str.ofString "_law_bag"), none)) cdv A outer s H E) (wDef E) := takes_of rfl rfl rfl rfl
  exact (sb_cons (ss_set 2 nd_law_bag n_law_bag_cell l_law_bag_0_cell (Or.inl rfl) (se_if (st_cmp os_lt (se_var 1 n_law_bag_at v_law_bag_0_at) (se_callBN 0 call_len lenR_ok (He.free_ok KX G (c.d.fact 28 rfl)) g_law_bag_0_len (by decide +kernel) n_law_bag_script v_law_bag_0_script) (nomark _)) (se_ixN 0 n_law_bag_script v_law_bag_0_script (se_var 1 n_law_bag_at v_law_bag_0_at)) se_int)) (sb_cons (ss_set 3 nd_law_bag n_law_bag_digits l_law_bag_0_digits (Or.inl rfl) (se_if (st_cmp os_ge (se_callB cs_absB (He.free_ok KX G (c.d.fact 46 rfl)) g_law_bag_0_abs (by decide +kernel) (sa_cons (se_var 2 n_law_bag_cell v_law_bag_0_cell) sa_nil)) (se_op os_pow se_int se_int) (nomark _)) (se_callB cs_absB (He.free_ok KX G (c.d.fact 46 rfl)) g_law_bag_0_abs (by decide +kernel) (sa_cons (se_var 2 n_law_bag_cell v_law_bag_0_cell) sa_nil)) se_int)) (sb_one (ss_retF (sef_lst (sa_cons (se_var 3 n_law_bag_digits v_law_bag_0_digits) (sa_cons (se_op os_add (se_op os_add (se_op os_mulI (se_op os_mod (se_callTy cs_int1s (He.free_ok KX G (c.d.fact 20 rfl)) g_law_bag_0_int (by decide +kernel) (sa_cons (se_var 2 n_law_bag_cell v_law_bag_0_cell) sa_nil)) se_int) se_int) (se_op os_mulI se_int (se_var 1 n_law_bag_at v_law_bag_0_at))) se_int) (sa_cons se_int sa_nil))))))))
theorem d_law_bag (KX : K.In h) (G : h.Ns mainGlobals mg) (c : SaysF fa fn fx K) : Dfn P w K mg base "_law_bag" 1 m_law_bag [] := dfn_core (e_law_bag KX G c) (He.glo_ok KX G (c.d.fact 47 rfl)) (fun _ _ _ _ _ _ us hl => match us, hl with | [_, _], _ => rfl)
theorem e_law_take (KX : K.In h) (G : h.Ns mainGlobals mg) (c : SaysF fa fn fx K) : Core P w K mg base (He.fAd K ((Str.ofString "_law_take"), none)) (Str.ofString "_law_take") (Str.ofString "_law_take") (defArgs s_law_take) (defBody s_law_take) sc_law_take (df_law_take.dvs K) (df_law_take.kws K) 1 P_law_take m_law_take := by
  obtain ⟨fd, F⟩ := c.d.def_ 24 (d := df_law_take) rfl
  refine core_mk (N := N_law_take) (ps := P_law_take) F so_law_take fun cdv A outer s H E hr => ?_
  have tk : Takes (cxOf (L2.CX P w) P w K mg base N_law_take (Str.ofString "_law_take") sc_law_take (He.fAd K ((Str.ofString "_law_take"), none)) cdv A outer s H E) (wDef E) := takes_of rfl rfl rfl rfl
  exact (sb_cons (ss_if (st_cmp os_gt (se_ixN 0 n_law_take_bag v_law_take_0_bag se_int) se_int (nomark _)) (sb_cons (ss_set 2 nd_law_take n_law_take_digit l_law_take_0_digit (Or.inl rfl) (se_op os_mod (se_callTy cs_int1s (He.free_ok KX G (c.d.fact 20 rfl)) g_law_take_0_int (by decide +kernel) (sa_cons (se_ixN 0 n_law_take_bag v_law_take_0_bag se_int) sa_nil)) (se_var 1 n_law_take_many v_law_take_0_many))) (sb_cons (ss_setAt 0 n_law_take_bag v_law_take_0_bag (se_op os_fdiv (se_ixN 0 n_law_take_bag v_law_take_0_bag se_int) (se_var 1 n_law_take_many v_law_take_0_many)) se_int) (sb_one (ss_retV 2 n_law_take_digit v_law_take_0_digit)))) sb_nil) (sb_cons (ss_setAt 0 n_law_take_bag v_law_take_0_bag (se_op os_add (se_ixN 0 n_law_take_bag v_law_take_0_bag se_int) se_int) se_int) (sb_cons (ss_set 3 nd_law_take n_law_take_mixed l_law_take_0_mixed (Or.inl rfl) (se_op os_mod (se_callTy cs_int1s (He.free_ok KX G (c.d.fact 20 rfl)) g_law_take_0_int (by decide +kernel) (sa_cons (se_op os_pow (se_op os_add (se_ixN 0 n_law_take_bag v_law_take_0_bag se_int) (se_op os_mulI se_int (se_ixN 0 n_law_take_bag v_law_take_0_bag se_int))) se_int) sa_nil)) se_int)) (sb_cons (ss_set 3 nd_law_take n_law_take_mixed l_law_take_0_mixed (Or.inl rfl) (se_op os_mod (se_callTy cs_int1s (He.free_ok KX G (c.d.fact 20 rfl)) g_law_take_0_int (by decide +kernel) (sa_cons (se_op os_pow (se_op os_add (se_var 3 n_law_take_mixed v_law_take_0_mixed) (se_op os_mulI se_int (se_ixN 0 n_law_take_bag v_law_take_0_bag se_int))) se_int) sa_nil)) se_int)) (sb_one (ss_ret (se_op os_mod (se_callTy cs_int1s (He.free_ok KX G (c.d.fact 20 rfl)) g_law_take_0_int (by decide +kernel) (sa_cons (se_op os_fdiv (se_var 3 n_law_take_mixed v_law_take_0_mixed) se_int) sa_nil)) (se_var 1 n_law_take_many v_law_take_0_many))))))))
theorem d_law_take (KX : K.In h) (G : h.Ns mainGlobals mg) (c : SaysF fa fn fx K) : Dfn P w K mg base "_law_take" 1 m_law_take [] := dfn_core (e_law_take KX G c) (He.glo_ok KX G (c.d.fact 48 rfl)) (fun _ _ _ _ _ _ us hl => match us, hl with | [_, _], _ => rfl)
theorem e_law_of (KX : K.In h) (G : h.Ns mainGlobals mg) (c : SaysF fa fn fx K) : Core P w K mg base (He.fAd K ((Str.ofString "_law_of"), none)) (Str.ofString "_law_of") (Str.ofString "_law_of") (defArgs s_law_of) (defBody s_law_of) sc_law_of (df_law_of.dvs K) (df_law_of.kws K) 2 P_law_of m_law_of := by
  obtain ⟨fd, F⟩ := c.d.def_ 25 (d := df_law_of) rfl
  refine core_mk (N := N_law_of) (ps := P_law_of) F so_law_of fun cdv A outer s H E hr => ?_
  have tk : Takes (cxOf (L2.CX P w) P w K mg base N_law_of (Str.ofString "_law_of") sc_law_of (He.fAd K ((Str.ofString "_law_of"), none)) cdv A outer s H E) (wDef E) := takes_of rfl rfl rfl rfl
  exact (sb_one (ss_ret (se_ixN 1 n_law_of_some v_law_of_0_some (se_call (d_law_take KX G c) (hr.mono (by omega)) tk g_law_of_0_law_take (sr_var 0 n_law_of_bag v_law_of_0_bag (sr_cons (se_callBN 1 call_len lenR_ok (He.free_ok KX G (c.d.fact 28 rfl)) g_law_of_0_len (by decide +kernel) n_law_of_some v_law_of_0_some) sr_nil))))))
theorem d_law_of (KX : K.In h) (G : h.Ns mainGlobals mg) (c : SaysF fa fn fx K) : Dfn P w K mg base "_law_of" 2 m_law_of [] := dfn_core (e_law_of KX G c) (He.glo_ok KX G (c.d.fact 49 rfl)) (fun _ _ _ _ _ _ us hl => match us, hl with | [_, _], _ => rfl)
theorem e_law_number (KX : K.In h) (G : h.Ns mainGlobals mg) (c : SaysF fa fn fx K) : Core P w K mg base (He.fAd K ((Str.ofString "_law_number"), none)) (Str.ofString "_law_number") (Str.ofString "_law_number") (defArgs s_law_number) (defBody s_law_number) sc_law_number (df_law_number.dvs K) (df_law_number.kws K) 2 P_law_number m_law_number := by
  obtain ⟨fd, F⟩ := c.d.def_ 26 (d := df_law_number) rfl
  refine core_mk (N := N_law_number) (ps := P_law_number) F so_law_number fun cdv A outer s H E hr => ?_
  have tk : Takes (cxOf (L2.CX P w) P w K mg base N_law_number (Str.ofString "_law_number") sc_law_number (He.fAd K ((Str.ofString "_law_number"), none)) cdv A outer s H E) (wDef E) := takes_of rfl rfl rfl rfl
  exact (sb_cons (ss_set 1 nd_law_number n_law_number_road l_law_number_0_road (Or.inl rfl) (se_call (d_law_take KX G c) (hr.mono (by omega)) tk g_law_number_0_law_take (sr_var 0 n_law_number_bag v_law_number_0_bag (sr_cons se_int sr_nil)))) (sb_cons (ss_if (st_cmp os_lt (se_var 1 n_law_number_road v_law_number_0_road) se_int (nomark _)) (sb_one (ss_ret (se_op os_sub (se_call (d_law_take KX G c) (hr.mono (by omega)) tk g_law_number_0_law_take (sr_var 0 n_law_number_bag v_law_number_0_bag (sr_cons se_int sr_nil))) (se_op os_mulI se_int (se_var 1 n_law_number_road v_law_number_0_road))))) sb_nil) (sb_cons (ss_set 2 nd_law_number n_law_number_sign l_law_number_0_sign (Or.inl rfl) (se_op os_sub se_int (se_op os_mulI se_int (se_call (d_law_take KX G c) (hr.mono (by omega)) tk g_law_number_0_law_take (sr_var 0 n_law_number_bag v_law_number_0_bag (sr_cons se_int sr_nil)))))) (sb_cons (ss_if (st_cmp (os_eq hr.units) (se_var 1 n_law_number_road v_law_number_0_road) se_int (nomark _)) (sb_one (ss_ret (se_op os_mulI (se_var 2 n_law_number_sign v_law_number_0_sign) (se_op os_sub (se_op os_pow se_int se_int) (se_call (d_law_take KX G c) (hr.mono (by omega)) tk g_law_number_0_law_take (sr_var 0 n_law_number_bag v_law_number_0_bag (sr_cons se_int sr_nil))))))) sb_nil) (sb_one (ss_ret (se_op os_mulI (se_var 2 n_law_number_sign v_law_number_0_sign) (se_op os_add (se_op os_mulI (se_call (d_law_take KX G c) (hr.mono (by omega)) tk g_law_number_0_law_take (sr_var 0 n_law_number_bag v_law_number_0_bag (sr_cons (se_op os_pow se_int se_int) sr_nil))) (se_op os_pow se_int se_int)) (se_call (d_law_take KX G c) (hr.mono (by omega)) tk g_law_number_0_law_take (sr_var 0 n_law_number_bag v_law_number_0_bag (sr_cons (se_op os_pow se_int se_int) sr_nil)))))))))))
theorem d_law_number (KX : K.In h) (G : h.Ns mainGlobals mg) (c : SaysF fa fn fx K) : Dfn P w K mg base "_law_number" 2 m_law_number [] := dfn_core (e_law_number KX G c) (He.glo_ok KX G (c.d.fact 50 rfl)) (fun _ _ _ _ _ _ us hl => match us, hl with | [_], _ => rfl)
theorem e_law_stretch (KX : K.In h) (G : h.Ns mainGlobals mg) (c : SaysF fa fn fx K) : Core P w K mg base (He.fAd K ((Str.ofString "_law_stretch"), none)) (Str.ofString "_law_stretch") (Str.ofString "_law_stretch") (defArgs s_law_stretch) (defBody s_law_stretch) sc_law_stretch (df_law_stretch.dvs K) (df_law_stretch.kws K) 3 P_law_stretch m_law_stretch := by
  obtain ⟨fd, F⟩ := c.d.def_ 27 (d := df_law_stretch) rfl
  refine core_mk (N := N_law_stretch) (ps := P_law_stretch) F so_law_stretch fun cdv A outer s H E hr => ?_
  have tk : Takes (cxOf (L2.CX P w) P w K mg base N_law_stretch (Str.ofString "_law_stretch") sc_law_stretch (He.fAd K ((Str.ofString "_law_stretch"), none)) cdv A outer s H E) (wDef E) := takes_of rfl rfl rfl rfl
  exact (sb_cons (ss_set 1 nd_law_stretch n_law_stretch_road l_law_stretch_0_road (Or.inl rfl) (se_call (d_law_take KX G c) (hr.mono (by omega)) tk g_law_stretch_0_law_take (sr_var 0 n_law_stretch_bag v_law_stretch_0_bag (sr_cons se_int sr_nil)))) (sb_cons (ss_set 2 nd_law_stretch n_law_stretch_begin l_law_stretch_0_begin (Or.inl rfl) (se_if (st_cmp os_lt (se_var 1 n_law_stretch_road v_law_stretch_0_road) se_int (nomark _)) (se_call (d_law_take KX G c) (hr.mono (by omega)) tk g_law_stretch_0_law_take (sr_var 0 n_law_stretch_bag v_law_stretch_0_bag (sr_cons se_int sr_nil))) (se_call (d_law_number KX G c) (hr.mono (by omega)) tk g_law_stretch_0_law_number (sr_var 0 n_law_stretch_bag v_law_stretch_0_bag sr_nil)))) (sb_cons (ss_set 3 nd_law_stretch n_law_stretch_end l_law_stretch_0_end (Or.inl rfl) (se_if (st_cmp os_lt (se_var 1 n_law_stretch_road v_law_stretch_0_road) se_int (nomark _)) (se_op os_add (se_var 2 n_law_stretch_begin v_law_stretch_0_begin) (se_call (d_law_take KX G c) (hr.mono (by omega)) tk g_law_stretch_0_law_take (sr_var 0 n_law_stretch_bag v_law_stretch_0_bag (sr_cons se_int sr_nil)))) (se_call (d_law_number KX G c) (hr.mono (by omega)) tk g_law_stretch_0_law_number (sr_var 0 n_law_stretch_bag v_law_stretch_0_bag sr_nil)))) (sb_cons (ss_if (st_cmp os_in (se_var 1 n_law_stretch_road v_law_stretch_0_road) (se_tup (sa_cons se_int (sa_cons se_int sa_nil))) (by rfl)) (sb_one (ss_set 2 nd_law_stretch n_law_stretch_begin l_law_stretch_0_begin (Or.inl rfl) (se_un us_neg (se_op os_pow se_int se_int)))) sb_nil) (sb_cons (ss_if (st_cmp os_in (se_var 1 n_law_stretch_road v_law_stretch_0_road) (se_tup (sa_cons se_int (sa_cons se_int sa_nil))) (by rfl)) (sb_one (ss_set 3 nd_law_stretch n_law_stretch_end l_law_stretch_0_end (Or.inl rfl) (se_op os_pow se_int se_int))) sb_nil) (sb_one (ss_ret (se_tup (sa_cons (se_callB (cs_min2 rfl) (He.free_ok KX G (c.d.fact 39 rfl)) g_law_stretch_0_min (by decide +kernel) (sa_cons (se_callTy cs_int1s (He.free_ok KX G (c.d.fact 20 rfl)) g_law_stretch_0_int (by decide +kernel) (sa_cons (se_var 2 n_law_stretch_begin v_law_stretch_0_begin) sa_nil)) (sa_cons (se_callTy cs_int1s (He.free_ok KX G (c.d.fact 20 rfl)) g_law_stretch_0_int (by decide +kernel) (sa_cons (se_var 3 n_law_stretch_end v_law_stretch_0_end) sa_nil)) sa_nil))) (sa_cons (se_callB (cs_max2 rfl) (He.free_ok KX G (c.d.fact 37 rfl)) g_law_stretch_0_max (by decide +kernel) (sa_cons (se_callTy cs_int1s (He.free_ok KX G (c.d.fact 20 rfl)) g_law_stretch_0_int (by decide +kernel) (sa_cons (se_var 2 n_law_stretch_begin v_law_stretch_0_begin) sa_nil)) (sa_cons (se_callTy cs_int1s (He.free_ok KX G (c.d.fact 20 rfl)) g_law_stretch_0_int (by decide +kernel) (sa_cons (se_var 3 n_law_stretch_end v_law_stretch_0_end) sa_nil)) sa_nil))) sa_nil))))))))))
theorem d_law_stretch (KX : K.In h) (G : h.Ns mainGlobals mg) (c : SaysF fa fn fx K) : Dfn P w K mg base "_law_stretch" 3 m_law_stretch [] := dfn_core (e_law_stretch KX G c) (He.glo_ok KX G (c.d.fact 51 rfl)) (fun _ _ _ _ _ _ us hl => match us, hl with | [_], _ => rfl)
theorem e_law_union (KX : K.In h) (G : h.Ns mainGlobals mg) (c : SaysF fa fn fx K) : Core P w K mg base (He.fAd K ((Str.ofString "_law_union"), none)) (Str.ofString "_law_union") (Str.ofString "_law_union") (defArgs s_law_union) (defBody s_law_union) sc_law_union (df_law_union.dvs K) (df_law_union.kws K) 1 P_law_union m_law_union := by
  obtain ⟨fd, F⟩ := c.d.def_ 28 (d := df_law_union) rfl
  refine core_mk (N := N_law_union) (ps := P_law_union) F so_law_union fun cdv A outer s H E hr => ?_
  have tk : Takes (cxOf (L2.CX P w) P w K mg base N_law_union (Str.ofString "_law_union") sc_law_union (He.fAd K ((Str.ofString "_law_union"), none)) cdv A outer s H E) (wDef E) := takes_of rfl rfl rfl rfl
  exact (sb_cons (ss_setF 2 nd_law_union n_law_union_found l_law_union_0_found (Or.inl rfl) (sef_lst sa_nil)) (sb_cons (ss_for (passes_of rfl) rfl (si_any (se_callB cs_sortP (He.free_ok KX G (c.d.fact 36 rfl)) g_law_union_0_sorted (by decide +kernel) (sa_cons (se_var 0 n_law_union_spans v_law_union_0_spans) sa_nil))) (sg_tup (n := 2) rfl (sgs_cons (sg_name 3 nd_law_union n_law_union_begin l_law_union_0_begin (Or.inl rfl)) (sgs_cons (sg_name 4 nd_law_union n_law_union_end l_law_union_0_end (Or.inl rfl)) sgs_nil)) rfl) (sb_cons (ss_if (st_w (stw_and (st_cmp (os_eq hr.units) (se_var 3 n_law_union_begin v_law_union_0_begin) (se_var 4 n_law_union_end v_law_union_0_end) (nomark _)) (stw_and1 (st_not (st_tru (se_var 1 n_law_union_shut v_law_union_0_shut)))))) (sb_one ss_cont) sb_nil) (sb_one (ss_if (st_w (stw_and (st_cmpN 2 (os_ne hr.units) n_law_union_found v_law_union_0_found (se_fz (sef_lst sa_nil)) (nomark _)) (stw_and1 (st_cmp os_le (se_var 3 n_law_union_begin v_law_union_0_begin) (se_ix (se_ixN 2 n_law_union_found v_law_union_0_found (se_un us_neg se_int)) se_int) (nomark _))))) (sb_one (ss_setAt 2 n_law_union_found v_law_union_0_found (se_tup (sa_cons (se_ix (se_ixN 2 n_law_union_found v_law_union_0_found (se_un us_neg se_int)) se_int) (sa_cons (se_callB (cs_max2 rfl) (He.free_ok KX G (c.d.fact 37 rfl)) g_law_union_0_max (by decide +kernel) (sa_cons (se_callTy cs_int1s (He.free_ok KX G (c.d.fact 20 rfl)) g_law_union_0_int (by decide +kernel) (sa_cons (se_var 4 n_law_union_end v_law_union_0_end) sa_nil)) (sa_cons (se_callTy cs_int1s (He.free_ok KX G (c.d.fact 20 rfl)) g_law_union_0_int (by decide +kernel) (sa_cons (se_ix (se_ixN 2 n_law_union_found v_law_union_0_found (se_un us_neg se_int)) se_int) sa_nil)) sa_nil))) sa_nil))) (se_un us_neg se_int))) (sb_one (ss_app 2 n_law_union_found v_law_union_0_found (se_tup (sa_cons (se_var 3 n_law_union_begin v_law_union_0_begin) (sa_cons (se_var 4 n_law_union_end v_law_union_0_end) sa_nil))))))))) (sb_one (ss_retV 2 n_law_union_found v_law_union_0_found))))
theorem d_law_union (KX : K.In h) (G : h.Ns mainGlobals mg) (c : SaysF fa fn fx K) : Dfn P w K mg base "_law_union" 1 m_law_union [] := dfn_core (e_law_union KX G c) (He.glo_ok KX G (c.d.fact 52 rfl)) (fun _ _ _ _ _ _ us hl => match us, hl with | [_, _], _ => rfl)
theorem e_law_is_strict (KX : K.In h) (G : h.Ns mainGlobals mg) (c : SaysF fa fn fx K) : ∀ n : Nat, Core P w K mg base (He.fAd K ((Str.ofString "_law_is_strict"), none)) (Str.ofString "_law_is_strict") (Str.ofString "_law_is_strict") (defArgs s_law_is_strict) (defBody s_law_is_strict) sc_law_is_strict (df_law_is_strict.dvs K) (df_law_is_strict.kws K) (1 + n) P_law_is_strict (m_law_is_strict n)
  | 0 => by
    obtain ⟨fd, F⟩ := c.d.def_ 29 (d := df_law_is_strict) rfl
    exact core_zero F
  | n + 1 => by
    have ih := dfn_core (e_law_is_strict KX G c n) (He.glo_ok KX G (c.d.fact 55 rfl)) (fun _ _ _ _ _ _ us hl => match us, hl with | [_, _], _ => rfl)
    obtain ⟨fd, F⟩ := c.d.def_ 29 (d := df_law_is_strict) rfl
    refine core_mk (k := 1 + n) (N := N_law_is_strict) (ps := P_law_is_strict) F so_law_is_strict fun cdv A outer s H E hr => ?_
    have tk : Takes (cxOf (L2.CX P w) P w K mg base N_law_is_strict (Str.ofString "_law_is_strict") sc_law_is_strict (He.fAd K ((Str.ofString "_law_is_strict"), none)) cdv A outer s H E) (wDef E) := takes_of rfl rfl rfl rfl
    exact (sb_cons (ss_if (st_w (stw_or (st_tru (se_callB (cs_isi (kitT KX G c)) (He.free_ok KX G (c.d.fact 21 rfl)) g_law_is_strict_0_isinstance (by decide +kernel) (sa_cons (se_var 1 n_law_is_strict_due v_law_is_strict_0_due) (sa_cons (se_ty (He.free_ok KX G (c.d.fact 27 rfl)) g_law_is_strict_0_tuple (by decide +kernel)) sa_nil)))) (stw_or1 (st_tru (se_callB (cs_isi (kitT KX G c)) (He.free_ok KX G (c.d.fact 21 rfl)) g_law_is_strict_0_isinstance (by decide +kernel) (sa_cons (se_var 1 n_law_is_strict_due v_law_is_strict_0_due) (sa_cons (se_ty (He.free_ok KX G (c.d.fact 53 rfl)) g_law_is_strict_0_list (by decide +kernel)) sa_nil))))))) (sb_cons (ss_if (st_w (stw_or (st_cmp (os_ne hr.units) (se_callB (cs_isi (kitT KX G c)) (He.free_ok KX G (c.d.fact 21 rfl)) g_law_is_strict_0_isinstance (by decide +kernel) (sa_cons (se_var 1 n_law_is_strict_due v_law_is_strict_0_due) (sa_cons (se_ty (He.free_ok KX G (c.d.fact 27 rfl)) g_law_is_strict_0_tuple (by decide +kernel)) sa_nil))) (se_callB (cs_isi (kitT KX G c)) (He.free_ok KX G (c.d.fact 21 rfl)) g_law_is_strict_0_isinstance (by decide +kernel) (sa_cons (se_var 0 n_law_is_strict_told v_law_is_strict_0_told) (sa_cons (se_ty (He.free_ok KX G (c.d.fact 27 rfl)) g_law_is_strict_0_tuple (by decide +kernel)) sa_nil))) (nomark _)) (stw_or1 (st_cmp (os_ne hr.units) (se_callB (cs_isi (kitT KX G c)) (He.free_ok KX G (c.d.fact 21 rfl)) g_law_is_strict_0_isinstance (by decide +kernel) (sa_cons (se_var 1 n_law_is_strict_due v_law_is_strict_0_due) (sa_cons (se_ty (He.free_ok KX G (c.d.fact 53 rfl)) g_law_is_strict_0_list (by decide +kernel)) sa_nil))) (se_callB (cs_isi (kitT KX G c)) (He.free_ok KX G (c.d.fact 21 rfl)) g_law_is_strict_0_isinstance (by decide +kernel) (sa_cons (se_var 0 n_law_is_strict_told v_law_is_strict_0_told) (sa_cons (se_ty (He.free_ok KX G (c.d.fact 53 rfl)) g_law_is_strict_0_list (by decide +kernel)) sa_nil))) (nomark _))))) (sb_one (ss_ret se_bl)) sb_nil) (sb_cons (ss_if (st_cmp (os_ne hr.units) (se_callBN 0 call_len lenR_ok (He.free_ok KX G (c.d.fact 28 rfl)) g_law_is_strict_0_len (by decide +kernel) n_law_is_strict_told v_law_is_strict_0_told) (se_callBN 1 call_len lenR_ok (He.free_ok KX G (c.d.fact 28 rfl)) g_law_is_strict_0_len (by decide +kernel) n_law_is_strict_due v_law_is_strict_0_due) (nomark _)) (sb_one (ss_ret se_bl)) sb_nil) (sb_one (ss_ret (se_callB (cs_all rfl) (He.free_ok KX G (c.d.fact 54 rfl)) g_law_is_strict_0_all (by decide +kernel) (sa_cons (se_fz (sef_comp (own := [((Str.ofString "k"), 2)]) rfl nd_law_is_strict (si_rng1 (He.free_ok KX G (c.d.fact 45 rfl)) g_law_is_strict_0_range (sa_cons (se_callBN 1 call_len lenR_ok (He.free_ok KX G (c.d.fact 28 rfl)) g_law_is_strict_0_len (by decide +kernel) n_law_is_strict_due v_law_is_strict_0_due) sa_nil)) (blkOk_by (N := N_law_is_strict) (sc := sc_law_is_strict) (scope := sc_law_is_strict_1r) (by decide +kernel)) (by decide) (fun _ _ _ _ _ => (sg_name 2 nd_law_is_strict n_law_is_strict_k l_law_is_strict_1_k (Or.inr il_law_is_strict_1_k))) (fun _ _ _ _ _ => sts_nil) (fun _ _ _ _ _ => (se_call ih (hr.mono (by omega)) takes0 g_law_is_strict_1_law_is_strict (sr_cons (se_ixN 0 n_law_is_strict_told v_law_is_strict_1_told (se_var 2 n_law_is_strict_k v_law_is_strict_1_k)) (sr_cons (se_ixN 1 n_law_is_strict_due v_law_is_strict_1_due (se_var 2 n_law_is_strict_k v_law_is_strict_1_k)) sr_nil)))))) sa_nil)))))) sb_nil) (sb_cons (ss_if (st_cmp os_isN (se_var 1 n_law_is_strict_due v_law_is_strict_0_due) se_non (nomark _)) (sb_one (ss_ret (se_cmp os_isN (se_var 0 n_law_is_strict_told v_law_is_strict_0_told) se_non (nomark _)))) sb_nil) (sb_cons (ss_if (st_tru (se_callB (cs_isi (kitT KX G c)) (He.free_ok KX G (c.d.fact 21 rfl)) g_law_is_strict_0_isinstance (by decide +kernel) (sa_cons (se_var 1 n_law_is_strict_due v_law_is_strict_0_due) (sa_cons (se_ty (He.free_ok KX G (c.d.fact 31 rfl)) g_law_is_strict_0_str (by decide +kernel)) sa_nil)))) (sb_one (ss_ret (se_and (se_callB (cs_isi (kitT KX G c)) (He.free_ok KX G (c.d.fact 21 rfl)) g_law_is_strict_0_isinstance (by decide +kernel) (sa_cons (se_var 0 n_law_is_strict_told v_law_is_strict_0_told) (sa_cons (se_ty (He.free_ok KX G (c.d.fact 31 rfl)) g_law_is_strict_0_str (by decide +kernel)) sa_nil))) (se_one (se_cmp (os_eq hr.units) (se_var 0 n_law_is_strict_told v_law_is_strict_0_told) (se_var 1 n_law_is_strict_due v_law_is_strict_0_due) (nomark _)))))) sb_nil) (sb_one (ss_ret (se_and (se_callB (cs_isi (kitT KX G c)) (He.free_ok KX G (c.d.fact 21 rfl)) g_law_is_strict_0_isinstance (by decide +kernel) (sa_cons (se_var 0 n_law_is_strict_told v_law_is_strict_0_told) (sa_cons (se_ty (He.free_ok KX G (c.d.fact 20 rfl)) g_law_is_strict_0_int (by decide +kernel)) sa_nil))) (se_and (se_cmp (os_eq hr.units) (se_callB (cs_isi (kitT KX G c)) (He.free_ok KX G (c.d.fact 21 rfl)) g_law_is_strict_0_isinstance (by decide +kernel) (sa_cons (se_var 0 n_law_is_strict_told v_law_is_strict_0_told) (sa_cons (se_ty (He.free_ok KX G (c.d.fact 22 rfl)) g_law_is_strict_0_bool (by decide +kernel)) sa_nil))) (se_callB (cs_isi (kitT KX G c)) (He.free_ok KX G (c.d.fact 21 rfl)) g_law_is_strict_0_isinstance (by decide +kernel) (sa_cons (se_var 1 n_law_is_strict_due v_law_is_strict_0_due) (sa_cons (se_ty (He.free_ok KX G (c.d.fact 22 rfl)) g_law_is_strict_0_bool (by decide +kernel)) sa_nil))) (nomark _)) (se_one (se_cmp (os_eq hr.units) (se_var 0 n_law_is_strict_told v_law_is_strict_0_told) (se_var 1 n_law_is_strict_due v_law_is_strict_0_due) (nomark _))))))))))
theorem d_law_is_strict (KX : K.In h) (G : h.Ns mainGlobals mg) (c : SaysF fa fn fx K) (n : Nat) : Dfn P w K mg base "_law_is_strict" (1 + n) (m_law_is_strict n) [] := dfn_core (e_law_is_strict KX G c n) (He.glo_ok KX G (c.d.fact 55 rfl)) (fun _ _ _ _ _ _ us hl => match us, hl with | [_, _], _ => rfl)
theorem e_law_is_near (KX : K.In h) (G : h.Ns mainGlobals mg) (c : SaysF fa fn fx K) : Core P w K mg base (He.fAd K ((Str.ofString "_law_is_near"), none)) (Str.ofString "_law_is_near") (Str.ofString "_law_is_near") (defArgs s_law_is_near) (defBody s_law_is_near) sc_law_is_near (df_law_is_near.dvs K) (df_law_is_near.kws K) 1 P_law_is_near m_law_is_near := by
  obtain ⟨fd, F⟩ := c.d.def_ 30 (d := df_law_is_near) rfl
  refine core_mk (N := N_law_is_near) (ps := P_law_is_near) F so_law_is_near fun cdv A outer s H E hr => ?_
  have tk : Takes (cxOf (L2.CX P w) P w K mg base N_law_is_near (Str.ofString "_law_is_near") sc_law_is_near (He.fAd K ((Str.ofString "_law_is_near"), none)) cdv A outer s H E) (wDef E) := takes_of rfl rfl rfl rfl
  exact (sb_one (ss_ret (se_and (se_callB (cs_isi (kitT KX G c)) (He.free_ok KX G (c.d.fact 21 rfl)) g_law_is_near_0_isinstance (by decide +kernel) (sa_cons (se_var 0 n_law_is_near_thing v_law_is_near_0_thing) (sa_cons (se_ty (He.free_ok KX G (c.d.fact 20 rfl)) g_law_is_near_0_int (by decide +kernel)) sa_nil))) (se_and (se_not (se_callB (cs_isi (kitT KX G c)) (He.free_ok KX G (c.d.fact 21 rfl)) g_law_is_near_0_isinstance (by decide +kernel) (sa_cons (se_var 0 n_law_is_near_thing v_law_is_near_0_thing) (sa_cons (se_ty (He.free_ok KX G (c.d.fact 22 rfl)) g_law_is_near_0_bool (by decide +kernel)) sa_nil)))) (se_one (se_chain os_le os_le (se_un us_neg (se_op os_pow se_int se_int)) (se_var 0 n_law_is_near_thing v_law_is_near_0_thing) (se_op os_pow se_int se_int) (by with_unfolding_all rfl)))))))
theorem d_law_is_near (KX : K.In h) (G : h.Ns mainGlobals mg) (c : SaysF fa fn fx K) : Dfn P w K mg base "_law_is_near" 1 m_law_is_near [] := dfn_core (e_law_is_near KX G c) (He.glo_ok KX G (c.d.fact 56 rfl)) (fun _ _ _ _ _ _ us hl => match us, hl with | [_], _ => rfl)
theorem e_law_is_edge (KX : K.In h) (G : h.Ns mainGlobals mg) (c : SaysF fa fn fx K) : Core P w K mg base (He.fAd K ((Str.ofString "_law_is_edge"), none)) (Str.ofString "_law_is_edge") (Str.ofString "_law_is_edge") (defArgs s_law_is_edge) (defBody s_law_is_edge) sc_law_is_edge (df_law_is_edge.dvs K) (df_law_is_edge.kws K) 2 P_law_is_edge m_law_is_edge := by
  obtain ⟨fd, F⟩ := c.d.def_ 31 (d := df_law_is_edge) rfl
  refine core_mk (N := N_law_is_edge) (ps := P_law_is_edge) F so_law_is_edge fun cdv A outer s H E hr => ?_
  have tk : Takes (cxOf (L2.CX P w) P w K mg base N_law_is_edge (Str.ofString "_law_is_edge") sc_law_is_edge (He.fAd K ((Str.ofString "_law_is_edge"), none)) cdv A outer s H E) (wDef E) := takes_of rfl rfl rfl rfl
  exact (sb_one (ss_ret (se_or (se_call (d_law_is_near KX G c) (hr.mono (by omega)) tk g_law_is_edge_0_law_is_near (sr_var 0 n_law_is_edge_thing v_law_is_edge_0_thing sr_nil)) (se_one (se_and (se_callB (cs_isi (kitT KX G c)) (He.free_ok KX G (c.d.fact 21 rfl)) g_law_is_edge_0_isinstance (by decide +kernel) (sa_cons (se_var 0 n_law_is_edge_thing v_law_is_edge_0_thing) (sa_cons (se_ty (He.free_ok KX G (c.d.fact 20 rfl)) g_law_is_edge_0_int (by decide +kernel)) sa_nil))) (se_one (se_cmp (os_eq hr.units) (se_callB cs_absB (He.free_ok KX G (c.d.fact 46 rfl)) g_law_is_edge_0_abs (by decide +kernel) (sa_cons (se_var 0 n_law_is_edge_thing v_law_is_edge_0_thing) sa_nil)) (se_op os_pow se_int se_int) (nomark _))))))))
theorem d_law_is_edge (KX : K.In h) (G : h.Ns mainGlobals mg) (c : SaysF fa fn fx K) : Dfn P w K mg base "_law_is_edge" 2 m_law_is_edge [] := dfn_core (e_law_is_edge KX G c) (He.glo_ok KX G (c.d.fact 57 rfl)) (fun _ _ _ _ _ _ us hl => match us, hl with | [_], _ => rfl)
theorem e_law_is_stretch (KX : K.In h) (G : h.Ns mainGlobals mg) (c : SaysF fa fn fx K) : Core P w K mg base (He.fAd K ((Str.ofString "_law_is_stretch"), none)) (Str.ofString "_law_is_stretch") (Str.ofString "_law_is_stretch") (defArgs s_law_is_stretch) (defBody s_law_is_stretch) sc_law_is_stretch (df_law_is_stretch.dvs K) (df_law_is_stretch.kws K) 3 P_law_is_stretch m_law_is_stretch := by
  obtain ⟨fd, F⟩ := c.d.def_ 32 (d := df_law_is_stretch) rfl
  refine core_mk (N := N_law_is_stretch) (ps := P_law_is_stretch) F so_law_is_stretch fun cdv A outer s H E hr => ?_
  have tk : Takes (cxOf (L2.CX P w) P w K mg base N_law_is_stretch (Str.ofString "_law_is_stretch") sc_law_is_stretch (He.fAd K ((Str.ofString "_law_is_stretch"), none)) cdv A outer s H E) (wDef E) := takes_of rfl rfl rfl rfl
  exact (sb_cons (ss_if (st_w (stw_or (st_not (st_tru (se_callB (cs_isi (kitT KX G c)) (He.free_ok KX G (c.d.fact 21 rfl)) g_law_is_stretch_0_isinstance (by decide +kernel) (sa_cons (se_var 0 n_law_is_stretch_thing v_law_is_stretch_0_thing) (sa_cons (se_ty (He.free_ok KX G (c.d.fact 27 rfl)) g_law_is_stretch_0_tuple (by decide +kernel)) sa_nil))))) (stw_or (st_cmp (os_ne hr.units) (se_callBN 0 call_len lenR_ok (He.free_ok KX G (c.d.fact 28 rfl)) g_law_is_stretch_0_len (by decide +kernel) n_law_is_stretch_thing v_law_is_stretch_0_thing) se_int (nomark _)) (stw_or (st_not (st_tru (se_call (d_law_is_edge KX G c) (hr.mono (by omega)) tk g_law_is_stretch_0_law_is_edge (sr_cons (se_ixN 0 n_law_is_stretch_thing v_law_is_stretch_0_thing se_int) sr_nil)))) (stw_or1 (st_not (st_tru (se_call (d_law_is_edge KX G c) (hr.mono (by omega)) tk g_law_is_stretch_0_law_is_edge (sr_cons (se_ixN 0 n_law_is_stretch_thing v_law_is_stretch_0_thing se_int) sr_nil))))))))) (sb_one (ss_ret se_bl)) sb_nil) (sb_one (ss_ret (se_and (se_cmp os_le (se_ixN 0 n_law_is_stretch_thing v_law_is_stretch_0_thing se_int) (se_ixN 0 n_law_is_stretch_thing v_law_is_stretch_0_thing se_int) (nomark _)) (se_and (se_cmp os_lt (se_ixN 0 n_law_is_stretch_thing v_law_is_stretch_0_thing se_int) (se_op os_pow se_int se_int) (nomark _)) (se_one (se_cmp os_gt (se_ixN 0 n_law_is_stretch_thing v_law_is_stretch_0_thing se_int) (se_un us_neg (se_op os_pow se_int se_int)) (nomark _))))))))
theorem d_law_is_stretch (KX : K.In h) (G : h.Ns mainGlobals mg) (c : SaysF fa fn fx K) : Dfn P w K mg base "_law_is_stretch" 3 m_law_is_stretch [] := dfn_core (e_law_is_stretch KX G c) (He.glo_ok KX G (c.d.fact 58 rfl)) (fun _ _ _ _ _ _ us hl => match us, hl with | [_], _ => rfl)
theorem e_law_odd (KX : K.In h) (G : h.Ns mainGlobals mg) (c : SaysF fa fn fx K) : Core P w K mg base (He.fAd K ((Str.ofString "_law_odd"), none)) (Str.ofString "_law_odd") (Str.ofString "_law_odd") (defArgs s_law_odd) (defBody s_law_odd) sc_law_odd (df_law_odd.dvs K) (df_law_odd.kws K) 3 P_law_odd m_law_odd := by
  obtain ⟨fd, F⟩ := c.d.def_ 33 (d := df_law_odd) rfl
  refine core_mk (N := N_law_odd) (ps := P_law_odd) F so_law_odd fun cdv A outer s H E hr => ?_
  have tk : Takes (cxOf (L2.CX P w) P w K mg base N_law_odd (Str.ofString "_law_odd") sc_law_odd (He.fAd K ((Str.ofString "_law_odd"), none)) cdv A outer s H E) (wDef E) := takes_of rfl rfl rfl rfl
  exact (sb_cons (ss_set 1 nd_law_odd n_law_odd_some l_law_odd_0_some (Or.inl rfl) (se_fz (sef_lst (sa_cons se_non (sa_cons se_bl (sa_cons se_int (sa_cons se_str (sa_cons se_str (sa_cons se_str (sa_cons (se_tup sa_nil) (sa_cons (se_tup (sa_cons se_int sa_nil)) (sa_cons (se_fz (sef_lst (sa_cons se_int (sa_cons se_int sa_nil)))) (sa_cons (se_tup (sa_cons se_int (sa_cons se_int (sa_cons se_int sa_nil)))) (sa_cons (se_tup (sa_cons se_int (sa_cons se_int sa_nil))) (sa_cons (se_tup (sa_cons se_bl (sa_cons se_int sa_nil))) (sa_cons (se_tup (sa_cons se_int (sa_cons se_bl sa_nil))) (sa_cons (se_tup (sa_cons se_int (sa_cons se_non sa_nil))) sa_nil))))))))))))))))) (sb_cons (ss_set 1 nd_law_odd n_law_odd_some l_law_odd_0_some (Or.inl rfl) (se_op os_add (se_var 1 n_law_odd_some v_law_odd_0_some) (se_fz (sef_lst (sa_cons (se_tup (sa_cons se_int (sa_cons (se_op os_add (se_op os_pow se_int se_int) se_int) sa_nil))) (sa_cons (se_tup (sa_cons (se_op os_sub (se_un us_neg (se_op os_pow se_int se_int)) se_int) (sa_cons se_int sa_nil))) (sa_cons (se_tup (sa_cons (se_op os_pow se_int se_int) (sa_cons (se_op os_pow se_int se_int) sa_nil))) (sa_cons (se_tup (sa_cons (se_un us_neg (se_op os_pow se_int se_int)) (sa_cons (se_un us_neg (se_op os_pow se_int se_int)) sa_nil))) (sa_cons (se_tup (sa_cons se_str (sa_cons se_str sa_nil))) (sa_cons (se_tup (sa_cons (se_tup (sa_cons se_int (sa_cons se_int sa_nil))) (sa_cons se_int sa_nil))) sa_nil)))))))))) (sb_cons (ss_set 1 nd_law_odd n_law_odd_some l_law_odd_0_some (Or.inl rfl) (se_op os_add (se_var 1 n_law_odd_some v_law_odd_0_some) (se_fz (sef_lst (sa_cons (se_tup (sa_cons se_str (sa_cons se_bl sa_nil))) (sa_cons (se_tup (sa_cons se_str (sa_cons (se_op os_pow se_int se_int) sa_nil))) (sa_cons (se_tup (sa_cons se_str (sa_cons (se_un us_neg (se_op os_pow se_int se_int)) sa_nil))) (sa_cons (se_tup (sa_cons se_str (sa_cons (se_op os_add (se_op os_pow se_int se_int) se_int) sa_nil))) (sa_cons (se_tup (sa_cons se_str (sa_cons se_int sa_nil))) (sa_cons (se_tup (sa_cons se_str sa_nil)) (sa_cons (se_fz (sef_lst (sa_cons se_str (sa_cons se_int sa_nil)))) sa_nil))))))))))) (sb_cons (ss_set 1 nd_law_odd n_law_odd_some l_law_odd_0_some (Or.inl rfl) (se_op os_add (se_var 1 n_law_odd_some v_law_odd_0_some) (se_fz (sef_lst (sa_cons (se_tup (sa_cons se_str (sa_cons se_int sa_nil))) (sa_cons (se_tup (sa_cons se_str (sa_cons se_int sa_nil))) (sa_cons (se_tup (sa_cons se_int (sa_cons se_int sa_nil))) (sa_cons (se_tup (sa_cons se_int (sa_cons se_int sa_nil))) (sa_cons (se_tup (sa_cons (se_un us_neg (se_op os_pow se_int se_int)) (sa_cons (se_op os_pow se_int se_int) sa_nil))) (sa_cons (se_tup (sa_cons se_str (sa_cons se_str sa_nil))) (sa_cons (se_tup (sa_cons se_int (sa_cons se_str sa_nil))) (sa_cons (se_tup (sa_cons se_str (sa_cons se_int sa_nil))) sa_nil)))))))))))) (sb_one (ss_ret (se_call (d_law_of KX G c) (hr.mono (by omega)) tk g_law_odd_0_law_of (sr_var 0 n_law_odd_bag v_law_odd_0_bag (sr_var 1 n_law_odd_some v_law_odd_0_some sr_nil)))))))))
theorem d_law_odd (KX : K.In h) (G : h.Ns mainGlobals mg) (c : SaysF fa fn fx K) : Dfn P w K mg base "_law_odd" 3 m_law_odd [] := dfn_core (e_law_odd KX G c) (He.glo_ok KX G (c.d.fact 59 rfl)) (fun _ _ _ _ _ _ us hl => match us, hl with | [_], _ => rfl)
theorem e_law_days (KX : K.In h) (G : h.Ns mainGlobals mg) (c : SaysF fa fn fx K) : Core P w K mg base (He.fAd K ((Str.ofString "_law_days"), none)) (Str.ofString "_law_days") (Str.ofString "_law_days") (defArgs s_law_days) (defBody s_law_days) sc_law_days (df_law_days.dvs K) (df_law_days.kws K) 3 P_law_days m_law_days := by
  obtain ⟨fd, F⟩ := c.d.def_ 34 (d := df_law_days) rfl
  refine core_mk (N := N_law_days) (ps := P_law_days) F so_law_days fun cdv A outer s H E hr => ?_
  have tk : Takes (cxOf (L2.CX P w) P w K mg base N_law_days (Str.ofString "_law_days") sc_law_days (He.fAd K ((Str.ofString "_law_days"), none)) cdv A outer s H E) (wDef E) := takes_of rfl rfl rfl rfl
  exact (sb_cons (ss_set 1 nd_law_days n_law_days_large l_law_days_0_large (Or.inl rfl) (se_call (d_law_of KX G c) (hr.mono (by omega)) tk g_law_days_0_law_of (sr_var 0 n_law_days_bag v_law_days_0_bag (sr_cons (se_fz (sef_lst (sa_cons (se_op os_pow se_int se_int) (sa_cons se_int (sa_cons (se_op os_add se_int (se_call (d_law_take KX G c) (hr.mono (by omega)) tk g_law_days_0_law_take (sr_var 0 n_law_days_bag v_law_days_0_bag (sr_cons (se_op os_pow se_int se_int) sr_nil)))) sa_nil))))) sr_nil)))) (sb_cons (ss_set 2 nd_law_days n_law_days_length l_law_days_0_length (Or.inl rfl) (se_call (d_law_of KX G c) (hr.mono (by omega)) tk g_law_days_0_law_of (sr_var 0 n_law_days_bag v_law_days_0_bag (sr_cons (se_fz (sef_lst (sa_cons se_int (sa_cons se_int (sa_cons se_int (sa_cons se_int (sa_cons se_int (sa_cons se_int (sa_cons se_int (sa_cons se_int (sa_cons se_int (sa_cons se_int (sa_cons (se_op os_add se_int (se_call (d_law_take KX G c) (hr.mono (by omega)) tk g_law_days_0_law_take (sr_var 0 n_law_days_bag v_law_days_0_bag (sr_cons se_int sr_nil)))) (sa_cons (se_var 1 n_law_days_large v_law_days_0_large) sa_nil)))))))))))))) sr_nil)))) (sb_one (ss_ret (se_tup (sa_cons (se_var 2 n_law_days_length v_law_days_0_length) (sa_cons (se_call (d_law_of KX G c) (hr.mono (by omega)) tk g_law_days_0_law_of (sr_var 0 n_law_days_bag v_law_days_0_bag (sr_cons (se_fz (sef_lst (sa_cons se_int (sa_cons se_int (sa_cons (se_op os_sub (se_var 2 n_law_days_length v_law_days_0_length) se_int) (sa_cons (se_call (d_law_take KX G c) (hr.mono (by omega)) tk g_law_days_0_law_take (sr_var 0 n_law_days_bag v_law_days_0_bag (sr_var 2 n_law_days_length v_law_days_0_length sr_nil))) sa_nil)))))) sr_nil))) sa_nil)))))))
theorem d_law_days (KX : K.In h) (G : h.Ns mainGlobals mg) (c : SaysF fa fn fx K) : Dfn P w K mg base "_law_days" 3 m_law_days [] := dfn_core (e_law_days KX G c) (He.glo_ok KX G (c.d.fact 60 rfl)) (fun _ _ _ _ _ _ us hl => match us, hl with | [_], _ => rfl)
theorem e_law_overlap (KX : K.In h) (G : h.Ns mainGlobals mg) (c : SaysF fa fn fx K) : Core P w K mg base (He.fAd K ((Str.ofString "_law_overlap"), none)) (Str.ofString "_law_overlap") (Str.ofString "_law_overlap") (defArgs s_law_overlap) (defBody s_law_overlap) sc_law_overlap (df_law_overlap.dvs K) (df_law_overlap.kws K) 1 P_law_overlap m_law_overlap := by
  obtain ⟨fd, F⟩ := c.d.def_ 35 (d := df_law_overlap) rfl
  refine core_mk (N := N_law_overlap) (ps := P_law_overlap) F so_law_overlap fun cdv A outer s H E hr => ?_
  have tk : Takes (cxOf (L2.CX P w) P w K mg base N_law_overlap (Str.ofString "_law_overlap") sc_law_overlap (He.fAd K ((Str.ofString "_law_overlap"), none)) cdv A outer s H E) (wDef E) := takes_of rfl rfl rfl rfl
  exact (sb_one (ss_ret (se_callB (cs_sum rfl) (He.free_ok KX G (c.d.fact 40 rfl)) g_law_overlap_0_sum (by decide +kernel) (sa_cons (se_fz (sef_comp (own := [((Str.ofString "left"), 3), ((Str.ofString "right"), 4)]) rfl nd_law_overlap (si_any (se_var 0 n_law_overlap_rows v_law_overlap_0_rows)) (blkOk_by (N := N_law_overlap) (sc := sc_law_overlap) (scope := sc_law_overlap_1r) (by decide +kernel)) (by decide) (fun _ _ _ _ _ => (sg_tup (n := 2) rfl (sgs_cons (sg_name 3 nd_law_overlap n_law_overlap_left l_law_overlap_1_left (Or.inr il_law_overlap_1_left)) (sgs_cons (sg_name 4 nd_law_overlap n_law_overlap_right l_law_overlap_1_right (Or.inr il_law_overlap_1_right)) sgs_nil)) rfl)) (fun _ _ _ _ _ => sts_nil) (fun _ _ _ _ _ => (se_callB (cs_max2 rfl) (He.free_ok KX G (c.d.fact 37 rfl)) g_law_overlap_1_max (by decide +kernel) (sa_cons se_int (sa_cons (se_op os_sub (se_callB (cs_min2 rfl) (He.free_ok KX G (c.d.fact 39 rfl)) g_law_overlap_1_min (by decide +kernel) (sa_cons (se_callTy cs_int1s (He.free_ok KX G (c.d.fact 20 rfl)) g_law_overlap_1_int (by decide +kernel) (sa_cons (se_var 2 n_law_overlap_end v_law_overlap_1_end) sa_nil)) (sa_cons (se_callTy cs_int1s (He.free_ok KX G (c.d.fact 20 rfl)) g_law_overlap_1_int (by decide +kernel) (sa_cons (se_var 4 n_law_overlap_right v_law_overlap_1_right) sa_nil)) sa_nil))) (se_callB (cs_max2 rfl) (He.free_ok KX G (c.d.fact 37 rfl)) g_law_overlap_1_max (by decide +kernel) (sa_cons (se_callTy cs_int1s (He.free_ok KX G (c.d.fact 20 rfl)) g_law_overlap_1_int (by decide +kernel) (sa_cons (se_var 1 n_law_overlap_begin v_law_overlap_1_begin) sa_nil)) (sa_cons (se_callTy cs_int1s (He.free_ok KX G (c.d.fact 20 rfl)) g_law_overlap_1_int (by decide +kernel) (sa_cons (se_var 3 n_law_overlap_left v_law_overlap_1_left) sa_nil)) sa_nil)))) sa_nil)))))) sa_nil))))
theorem d_law_overlap (KX : K.In h) (G : h.Ns mainGlobals mg) (c : SaysF fa fn fx K) : Dfn P w K mg base "_law_overlap" 1 m_law_overlap [] := dfn_core (e_law_overlap KX G c) (He.glo_ok KX G (c.d.fact 61 rfl)) (fun _ _ _ _ _ _ us hl => match us, hl with | [_, _, _], _ => rfl)
theorem e_law_ended (KX : K.In h) (G : h.Ns mainGlobals mg) (c : SaysF fa fn fx K) : Core P w K mg base (He.fAd K ((Str.ofString "_law_ended"), none)) (Str.ofString "_law_ended") (Str.ofString "_law_ended") (defArgs s_law_ended) (defBody s_law_ended) sc_law_ended (df_law_ended.dvs K) (df_law_ended.kws K) 3 P_law_ended m_law_ended := by
  obtain ⟨fd, F⟩ := c.d.def_ 36 (d := df_law_ended) rfl
  refine core_mk (N := N_law_ended) (ps := P_law_ended) F so_law_ended fun cdv A outer s H E hr => ?_
  have tk : Takes (cxOf (L2.CX P w) P w K mg base N_law_ended (Str.ofString "_law_ended") sc_law_ended (He.fAd K ((Str.ofString "_law_ended"), none)) cdv A outer s H E) (wDef E) := takes_of rfl rfl rfl rfl
  exact (sb_cons (ss_set 3 nd_law_ended n_law_ended_start l_law_ended_0_start (Or.inl rfl) (se_op os_add (se_var 2 n_law_ended_shift v_law_ended_0_shift) (se_op os_mulI (se_op os_sub (se_call (d_law_take KX G c) (hr.mono (by omega)) tk g_law_ended_0_law_take (sr_var 0 n_law_ended_bag v_law_ended_0_bag (sr_cons se_int sr_nil))) se_int) (se_var 1 n_law_ended_length v_law_ended_0_length)))) (sb_cons (ss_set 4 nd_law_ended n_law_ended_begin l_law_ended_0_begin (Or.inl rfl) (se_call (d_law_of KX G c) (hr.mono (by omega)) tk g_law_ended_0_law_of (sr_var 0 n_law_ended_bag v_law_ended_0_bag (sr_cons (se_fz (sef_lst (sa_cons (se_var 3 n_law_ended_start v_law_ended_0_start) (sa_cons (se_op os_add (se_var 3 n_law_ended_start v_law_ended_0_start) (se_call (d_law_take KX G c) (hr.mono (by omega)) tk g_law_ended_0_law_take (sr_var 0 n_law_ended_bag v_law_ended_0_bag (sr_var 1 n_law_ended_length v_law_ended_0_length sr_nil)))) (sa_cons (se_op os_sub (se_var 3 n_law_ended_start v_law_ended_0_start) se_int) (sa_cons (se_call (d_law_number KX G c) (hr.mono (by omega)) tk g_law_ended_0_law_number (sr_var 0 n_law_ended_bag v_law_ended_0_bag sr_nil)) (sa_cons (se_op os_sub (se_op os_pow se_int se_int) (se_call (d_law_take KX G c) (hr.mono (by omega)) tk g_law_ended_0_law_take (sr_var 0 n_law_ended_bag v_law_ended_0_bag (sr_cons se_int sr_nil)))) (sa_cons (se_un us_neg (se_op os_pow se_int se_int)) sa_nil)))))))) sr_nil)))) (sb_cons (ss_set 5 nd_law_ended n_law_ended_long l_law_ended_0_long (Or.inl rfl) (se_call (d_law_of KX G c) (hr.mono (by omega)) tk g_law_ended_0_law_of (sr_var 0 n_law_ended_bag v_law_ended_0_bag (sr_cons (se_fz (sef_lst (sa_cons se_int (sa_cons se_int (sa_cons (se_var 1 n_law_ended_length v_law_ended_0_length) (sa_cons (se_op os_mulI se_int (se_var 1 n_law_ended_length v_law_ended_0_length)) (sa_cons (se_call (d_law_take KX G c) (hr.mono (by omega)) tk g_law_ended_0_law_take (sr_var 0 n_law_ended_bag v_law_ended_0_bag (sr_cons (se_op os_add (se_op os_mulI se_int (se_var 1 n_law_ended_length v_law_ended_0_length)) se_int) sr_nil))) (sa_cons (se_op os_sub (se_var 1 n_law_ended_length v_law_ended_0_length) se_int) (sa_cons (se_op os_add (se_op os_mulI se_int (se_var 1 n_law_ended_length v_law_ended_0_length)) se_int) sa_nil))))))))) sr_nil)))) (sb_one (ss_ret (se_tup (sa_cons (se_var 4 n_law_ended_begin v_law_ended_0_begin) (sa_cons (se_callB (cs_max2 rfl) (He.free_ok KX G (c.d.fact 37 rfl)) g_law_ended_0_max (by decide +kernel) (sa_cons (se_callTy cs_int1s (He.free_ok KX G (c.d.fact 20 rfl)) g_law_ended_0_int (by decide +kernel) (sa_cons (se_var 4 n_law_ended_begin v_law_ended_0_begin) sa_nil)) (sa_cons (se_callTy cs_int1s (He.free_ok KX G (c.d.fact 20 rfl)) g_law_ended_0_int (by decide +kernel) (sa_cons (se_callB (cs_min2 rfl) (He.free_ok KX G (c.d.fact 39 rfl)) g_law_ended_0_min (by decide +kernel) (sa_cons (se_op os_pow se_int se_int) (sa_cons (se_op os_add (se_var 4 n_law_ended_begin v_law_ended_0_begin) (se_var 5 n_law_ended_long v_law_ended_0_long)) sa_nil))) sa_nil)) sa_nil))) sa_nil))))))))
theorem d_law_ended (KX : K.In h) (G : h.Ns mainGlobals mg) (c : SaysF fa fn fx K) : Dfn P w K mg base "_law_ended" 3 m_law_ended [] := dfn_core (e_law_ended KX G c) (He.glo_ok KX G (c.d.fact 62 rfl)) (fun _ _ _ _ _ _ us hl => match us, hl with | [_, _, _], _ => rfl)
theorem e_law_cells (KX : K.In h) (G : h.Ns mainGlobals mg) (c : SaysF fa fn fx K) : Core P w K mg base (He.fAd K ((Str.ofString "_law_cells"), none)) (Str.ofString "_law_cells") (Str.ofString "_law_cells") (defArgs s_law_cells) (defBody s_law_cells) sc_law_cells (df_law_cells.dvs K) (df_law_cells.kws K) 2 P_law_cells m_law_cells := by
  obtain ⟨fd, F⟩ := c.d.def_ 37 (d := df_law_cells) rfl
  refine core_mk (N := N_law_cells) (ps := P_law_cells) F so_law_cells fun cdv A outer s H E hr => ?_
  have tk : Takes (cxOf (L2.CX P w) P w K mg base N_law_cells (Str.ofString "_law_cells") sc_law_cells (He.fAd K ((Str.ofString "_law_cells"), none)) cdv A outer s H E) (wDef E) := takes_of rfl rfl rfl rfl
  exact (sb_cons (ss_par (i := 4) (j := 5) rfl nd_law_cells n_law_cells_wide n_law_cells_found (by decide) il_law_cells_0_wide il_law_cells_0_found (sa_cons (se_op os_fdiv (se_var 2 n_law_cells_length v_law_cells_0_length) (se_var 3 n_law_cells_columns v_law_cells_0_columns)) (sa_cons se_str sa_nil)) (by rfl)) (sb_cons (ss_for (passes_of rfl) rfl (si_rng1 (He.free_ok KX G (c.d.fact 45 rfl)) g_law_cells_0_range (sa_cons (se_var 3 n_law_cells_columns v_law_cells_0_columns) sa_nil)) (sg_name 6 nd_law_cells n_law_cells_k l_law_cells_0_k (Or.inl rfl)) (sb_cons (ss_set 7 nd_law_cells n_law_cells_held l_law_cells_0_held (Or.inl rfl) (se_call (d_law_overlap KX G c) (hr.mono (by omega)) tk g_law_cells_0_law_overlap (sr_var 0 n_law_cells_rows v_law_cells_0_rows (sr_cons (se_op os_add (se_var 1 n_law_cells_begin v_law_cells_0_begin) (se_op os_mulI (se_var 6 n_law_cells_k v_law_cells_0_k) (se_var 4 n_law_cells_wide v_law_cells_0_wide))) (sr_cons (se_op os_add (se_var 1 n_law_cells_begin v_law_cells_0_begin) (se_op os_mulI (se_op os_add (se_var 6 n_law_cells_k v_law_cells_0_k) se_int) (se_var 4 n_law_cells_wide v_law_cells_0_wide))) sr_nil))))) (sb_one (ss_set 5 nd_law_cells n_law_cells_found l_law_cells_0_found (Or.inl rfl) (se_op os_add (se_var 5 n_law_cells_found v_law_cells_0_found) (se_if (st_cmp (os_eq hr.units) (se_var 7 n_law_cells_held v_law_cells_0_held) se_int (nomark _)) se_str (se_if (st_cmp (os_eq hr.units) (se_var 7 n_law_cells_held v_law_cells_0_held) (se_var 4 n_law_cells_wide v_law_cells_0_wide) (nomark _)) se_str se_str))))))) (sb_one (ss_retV 5 n_law_cells_found v_law_cells_0_found))))
theorem d_law_cells (KX : K.In h) (G : h.Ns mainGlobals mg) (c : SaysF fa fn fx K) : Dfn P w K mg base "_law_cells" 2 m_law_cells [] := dfn_core (e_law_cells KX G c) (He.glo_ok KX G (c.d.fact 63 rfl)) (fun _ _ _ _ _ _ us hl => match us, hl with | [_, _, _, _], _ => rfl)
theorem e_law_columns (KX : K.In h) (G : h.Ns mainGlobals mg) (c : SaysF fa fn fx K) : Core P w K mg base (He.fAd K ((Str.ofString "_law_columns"), none)) (Str.ofString "_law_columns") (Str.ofString "_law_columns") (defArgs s_law_columns) (defBody s_law_columns) sc_law_columns (df_law_columns.dvs K) (df_law_columns.kws K) 3 P_law_columns m_law_columns := by
  obtain ⟨fd, F⟩ := c.d.def_ 38 (d := df_law_columns) rfl
  refine core_mk (N := N_law_columns) (ps := P_law_columns) F so_law_columns fun cdv A outer s H E hr => ?_
  have tk : Takes (cxOf (L2.CX P w) P w K mg base N_law_columns (Str.ofString "_law_columns") sc_law_columns (He.fAd K ((Str.ofString "_law_columns"), none)) cdv A outer s H E) (wDef E) := takes_of rfl rfl rfl rfl
  exact (sb_cons (ss_setLc 2 (own := [((Str.ofString "k"), 3)]) rfl nd_law_columns n_law_columns_some il_law_columns_0_some (by rfl) (si_rng2 (He.free_ok KX G (c.d.fact 45 rfl)) g_law_columns_0_range (sa_cons se_int (sa_cons se_int sa_nil))) (blkOk_by (N := N_law_columns) (sc := sc_law_columns) (scope := sc_law_columns_1r) (by decide +kernel)) (by decide) (fun _ _ _ _ _ => (sg_name 3 nd_law_columns n_law_columns_k l_law_columns_1_k (Or.inr il_law_columns_1_k))) (fun _ _ _ _ _ => (sts_one (st_cmp (os_eq hr.units) (se_op os_mod (se_var 1 n_law_columns_length v_law_columns_1_length) (se_var 3 n_law_columns_k v_law_columns_1_k)) se_int (nomark _)))) (fun _ _ _ _ _ => (se_var 3 n_law_columns_k v_law_columns_1_k))) (sb_one (ss_ret (se_call (d_law_of KX G c) (hr.mono (by omega)) tk g_law_columns_0_law_of (sr_var 0 n_law_columns_bag v_law_columns_0_bag (sr_var 2 n_law_columns_some v_law_columns_0_some sr_nil))))))
theorem d_law_columns (KX : K.In h) (G : h.Ns mainGlobals mg) (c : SaysF fa fn fx K) : Dfn P w K mg base "_law_columns" 3 m_law_columns [] := dfn_core (e_law_columns KX G c) (He.glo_ok KX G (c.d.fact 64 rfl)) (fun _ _ _ _ _ _ us hl => match us, hl with | [_, _], _ => rfl)
theorem e_law_about (KX : K.In h) (G : h.Ns mainGlobals mg) (c : SaysF fa fn fx K) : Core P w K mg base (He.fAd K ((Str.ofString "_law_about"), none)) (Str.ofString "_law_about") (Str.ofString "_law_about") (defArgs s_law_about) (defBody s_law_about) sc_law_about (df_law_about.dvs K) (df_law_about.kws K) 4 P_law_about m_law_about := by
  obtain ⟨fd, F⟩ := c.d.def_ 39 (d := df_law_about) rfl
  refine core_mk (N := N_law_about) (ps := P_law_about) F so_law_about fun cdv A outer s H E hr => ?_
  have tk : Takes (cxOf (L2.CX P w) P w K mg base N_law_about (Str.ofString "_law_about") sc_law_about (He.fAd K ((Str.ofString "_law_about"), none)) cdv A outer s H E) (wDef E) := takes_of rfl rfl rfl rfl
  exact (sb_cons (ss_par (i := 3) (j := 4) rfl nd_law_about n_law_about_road n_law_about_span (by decide) il_law_about_0_road il_law_about_0_span (sa_cons (se_call (d_law_take KX G c) (hr.mono (by omega)) tk g_law_about_0_law_take (sr_var 0 n_law_about_bag v_law_about_0_bag (sr_cons se_int sr_nil))) (sa_cons (se_call (d_law_ended KX G c) (hr.mono (by omega)) tk g_law_about_0_law_ended (sr_var 0 n_law_about_bag v_law_about_0_bag (sr_var 1 n_law_about_length v_law_about_0_length (sr_var 2 n_law_about_shift v_law_about_0_shift sr_nil)))) sa_nil)) (by rfl)) (sb_cons (ss_if (st_cmp (os_eq hr.units) (se_var 3 n_law_about_road v_law_about_0_road) se_int (nomark _)) (sb_one (ss_ret (se_call (d_law_stretch KX G c) (hr.mono (by omega)) tk g_law_about_0_law_stretch (sr_var 0 n_law_about_bag v_law_about_0_bag sr_nil)))) sb_nil) (sb_cons (ss_set 5 nd_law_about n_law_about_start l_law_about_0_start (Or.inl rfl) (se_op os_add (se_op os_add (se_var 2 n_law_about_shift v_law_about_0_shift) (se_op os_mulI (se_op os_sub (se_call (d_law_take KX G c) (hr.mono (by omega)) tk g_law_about_0_law_take (sr_var 0 n_law_about_bag v_law_about_0_bag (sr_cons se_int sr_nil))) se_int) (se_var 1 n_law_about_length v_law_about_0_length))) (se_call (d_law_take KX G c) (hr.mono (by omega)) tk g_law_about_0_law_take (sr_var 0 n_law_about_bag v_law_about_0_bag (sr_var 1 n_law_about_length v_law_about_0_length sr_nil))))) (sb_cons (ss_set 6 nd_law_about n_law_about_long l_law_about_0_long (Or.inl rfl) (se_call (d_law_of KX G c) (hr.mono (by omega)) tk g_law_about_0_law_of (sr_var 0 n_law_about_bag v_law_about_0_bag (sr_cons (se_fz (sef_lst (sa_cons (se_call (d_law_take KX G c) (hr.mono (by omega)) tk g_law_about_0_law_take (sr_var 0 n_law_about_bag v_law_about_0_bag (sr_cons (se_op os_add (se_var 1 n_law_about_length v_law_about_0_length) se_int) sr_nil))) (sa_cons (se_call (d_law_take KX G c) (hr.mono (by omega)) tk g_law_about_0_law_take (sr_var 0 n_law_about_bag v_law_about_0_bag (sr_cons se_int sr_nil))) (sa_cons (se_call (d_law_take KX G c) (hr.mono (by omega)) tk g_law_about_0_law_take (sr_var 0 n_law_about_bag v_law_about_0_bag (sr_cons (se_op os_mulI se_int (se_var 1 n_law_about_length v_law_about_0_length)) sr_nil))) sa_nil))))) sr_nil)))) (sb_one (ss_ret (se_if (st_cmp (os_eq hr.units) (se_var 3 n_law_about_road v_law_about_0_road) se_int (nomark _)) (se_var 4 n_law_about_span v_law_about_0_span) (se_tup (sa_cons (se_var 5 n_law_about_start v_law_about_0_start) (sa_cons (se_op os_add (se_var 5 n_law_about_start v_law_about_0_start) (se_var 6 n_law_about_long v_law_about_0_long)) sa_nil))))))))))
theorem d_law_about (KX : K.In h) (G : h.Ns mainGlobals mg) (c : SaysF fa fn fx K) : Dfn P w K mg base "_law_about" 4 m_law_about [] := dfn_core (e_law_about KX G c) (He.glo_ok KX G (c.d.fact 65 rfl)) (fun _ _ _ _ _ _ us hl => match us, hl with | [_, _, _], _ => rfl)
theorem e_law_told (KX : K.In h) (G : h.Ns mainGlobals mg) (c : SaysF fa fn fx K) : Core P w K mg base (He.fAd K ((Str.ofString "_law_told"), none)) (Str.ofString "_law_told") (Str.ofString "_law_told") (defArgs s_law_told) (defBody s_law_told) sc_law_told (df_law_told.dvs K) (df_law_told.kws K) 8 P_law_told m_law_told := by
  obtain ⟨fd, F⟩ := c.d.def_ 40 (d := df_law_told) rfl
  refine core_mk (N := N_law_told) (ps := P_law_told) F so_law_told fun cdv A outer s H E hr => ?_
  have tk : Takes (cxOf (L2.CX P w) P w K mg base N_law_told (Str.ofString "_law_told") sc_law_told (He.fAd K ((Str.ofString "_law_told"), none)) cdv A outer s H E) (wDef E) := takes_of rfl rfl rfl rfl
  exact (sb_cons (ss_tryL (xtOk KX G c) rfl rfl nd_law_told n_law_told_e il_law_told_0_e tk (fun W2 pn xe tk po => (sb_one (ss_set 4 nd_law_told n_law_told_told l_law_told_0_told (Or.inl rfl) (se_if (st_cmp (os_eq hr.units) (se_var 3 n_law_told_columns v_law_told_0_columns) se_int (nomark _)) (se_meth (k := 7) (so_var 0 n_law_told_days v_law_told_0_days) (all_cons ((ms_Days_drawn_3 KX G c).mono (by omega)) all_nil) (hr.mono (by omega)) tk (sc_pos 2 (sr_var 1 n_law_told_spans v_law_told_0_spans (sr_var 2 n_law_told_number v_law_told_0_number sr_nil)))) (se_meth (k := 7) (so_var 0 n_law_told_days v_law_told_0_days) (all_cons ((ms_Days_drawn_4 KX G c).mono (by omega)) all_nil) (hr.mono (by omega)) tk (sc_pos 3 (sr_var 1 n_law_told_spans v_law_told_0_spans (sr_var 2 n_law_told_number v_law_told_0_number (sr_var 3 n_law_told_columns v_law_told_0_columns sr_nil))))))))) (ClOk.cons (cs := fun e => (sRet (mTup (mCons (M.ret (.str (Str.ofString "item"))) (mCons (mXf "index" e) mNil))))) (names_own g_law_told_0_BadItem (He.glo_ok KX G (c.d.fact 9 rfl))) (fun a dd oe cls d pn e hz hv hc hd hx => sxb_one (sxs_ret (sx_tup (sxa_cons (sx_e se_str) (sxa_cons (sx_fld (C := "BadItem") (xfF_ok (c.get 16 rfl)) (He.noat_ok (c.d.fact 8 rfl)) (lkX_eq xt_flat hx) hz hv hc hd n_law_told_e v_law_told_0_e) sxa_nil))))) (ClOk.cons (cs := fun e => (sRet (mTup (mCons (M.ret (.str (Str.ofString "columns"))) (mCons (mXf "columns" e) mNil))))) (names_own g_law_told_0_BadColumns (He.glo_ok KX G (c.d.fact 15 rfl))) (fun a dd oe cls d pn e hz hv hc hd hx => sxb_one (sxs_ret (sx_tup (sxa_cons (sx_e se_str) (sxa_cons (sx_fld (C := "BadColumns") (xfF_ok (c.get 17 rfl)) (He.noat_ok (c.d.fact 14 rfl)) (lkX_eq xt_flat hx) hz hv hc hd n_law_told_e v_law_told_0_e) sxa_nil))))) (ClOk.cons (cs := fun e => (sRet (mTup (mCons (M.ret (.str (Str.ofString "far"))) (mCons (mXf "edge" e) mNil))))) (names_own g_law_told_0_TooFar (He.glo_ok KX G (c.d.fact 19 rfl))) (fun a dd oe cls d pn e hz hv hc hd hx => sxb_one (sxs_ret (sx_tup (sxa_cons (sx_e se_str) (sxa_cons (sx_fld (C := "TooFar") (xfF_ok (c.get 18 rfl)) (He.noat_ok (c.d.fact 17 rfl)) (lkX_eq xt_flat hx) hz hv hc hd n_law_told_e v_law_told_0_e) sxa_nil))))) ClOk.nil)))) (sb_one (ss_retV 4 n_law_told_told v_law_told_0_told)))
theorem d_law_told (KX : K.In h) (G : h.Ns mainGlobals mg) (c : SaysF fa fn fx K) : Dfn P w K mg base "_law_told" 8 m_law_told [] := dfn_core (e_law_told KX G c) (He.glo_ok KX G (c.d.fact 66 rfl)) (fun _ _ _ _ _ _ us hl => match us, hl with | [_, _, _, _], _ => rfl)
theorem e_law_is_fit (KX : K.In h) (G : h.Ns mainGlobals mg) (c : SaysF fa fn fx K) : Core P w K mg base (He.fAd K ((Str.ofString "_law_is_fit"), none)) (Str.ofString "_law_is_fit") (Str.ofString "_law_is_fit") (defArgs s_law_is_fit) (defBody s_law_is_fit) sc_law_is_fit (df_law_is_fit.dvs K) (df_law_is_fit.kws K) 1 P_law_is_fit m_law_is_fit := by
  obtain ⟨fd, F⟩ := c.d.def_ 41 (d := df_law_is_fit) rfl
  refine core_mk (N := N_law_is_fit) (ps := P_law_is_fit) F so_law_is_fit fun cdv A outer s H E hr => ?_
  have tk : Takes (cxOf (L2.CX P w) P w K mg base N_law_is_fit (Str.ofString "_law_is_fit") sc_law_is_fit (He.fAd K ((Str.ofString "_law_is_fit"), none)) cdv A outer s H E) (wDef E) := takes_of rfl rfl rfl rfl
  exact (sb_cons (ss_if (st_w (stw_or (st_not (st_tru (se_callB (cs_isi (kitT KX G c)) (He.free_ok KX G (c.d.fact 21 rfl)) g_law_is_fit_0_isinstance (by decide +kernel) (sa_cons (se_var 0 n_law_is_fit_columns v_law_is_fit_0_columns) (sa_cons (se_ty (He.free_ok KX G (c.d.fact 20 rfl)) g_law_is_fit_0_int (by decide +kernel)) sa_nil))))) (stw_or1 (st_tru (se_callB (cs_isi (kitT KX G c)) (He.free_ok KX G (c.d.fact 21 rfl)) g_law_is_fit_0_isinstance (by decide +kernel) (sa_cons (se_var 0 n_law_is_fit_columns v_law_is_fit_0_columns) (sa_cons (se_ty (He.free_ok KX G (c.d.fact 22 rfl)) g_law_is_fit_0_bool (by decide +kernel)) sa_nil))))))) (sb_one (ss_ret se_bl)) sb_nil) (sb_one (ss_ret (se_and (se_chain os_le os_le se_int (se_var 0 n_law_is_fit_columns v_law_is_fit_0_columns) se_int (by with_unfolding_all rfl)) (se_one (se_cmp (os_eq hr.units) (se_op os_mod (se_var 1 n_law_is_fit_length v_law_is_fit_0_length) (se_var 0 n_law_is_fit_columns v_law_is_fit_0_columns)) se_int (nomark _)))))))
theorem d_law_is_fit (KX : K.In h) (G : h.Ns mainGlobals mg) (c : SaysF fa fn fx K) : Dfn P w K mg base "_law_is_fit" 1 m_law_is_fit [] := dfn_core (e_law_is_fit KX G c) (He.glo_ok KX G (c.d.fact 67 rfl)) (fun _ _ _ _ _ _ us hl => match us, hl with | [_, _], _ => rfl)
theorem e_law_due (KX : K.In h) (G : h.Ns mainGlobals mg) (c : SaysF fa fn fx K) : Core P w K mg base (He.fAd K ((Str.ofString "_law_due"), none)) (Str.ofString "_law_due") (Str.ofString "_law_due") (defArgs s_law_due) (defBody s_law_due) sc_law_due (df_law_due.dvs K) (df_law_due.kws K) 4 P_law_due m_law_due := by
  obtain ⟨fd, F⟩ := c.d.def_ 42 (d := df_law_due) rfl
  refine core_mk (N := N_law_due) (ps := P_law_due) F so_law_due fun cdv A outer s H E hr => ?_
  have tk : Takes (cxOf (L2.CX P w) P w K mg base N_law_due (Str.ofString "_law_due") sc_law_due (He.fAd K ((Str.ofString "_law_due"), none)) cdv A outer s H E) (wDef E) := takes_of rfl rfl rfl rfl
  exact (sb_cons (ss_for (passes_of rfl) rfl (si_rng1 (He.free_ok KX G (c.d.fact 45 rfl)) g_law_due_0_range (sa_cons (se_callBN 0 call_len lenR_ok (He.free_ok KX G (c.d.fact 28 rfl)) g_law_due_0_len (by decide +kernel) n_law_due_spans v_law_due_0_spans) sa_nil)) (sg_name 5 nd_law_due n_law_due_k l_law_due_0_k (Or.inl rfl)) (sb_one (ss_if (st_not (st_tru (se_call (d_law_is_stretch KX G c) (hr.mono (by omega)) tk g_law_due_0_law_is_stretch (sr_cons (se_ixN 0 n_law_due_spans v_law_due_0_spans (se_var 5 n_law_due_k v_law_due_0_k)) sr_nil)))) (sb_one (ss_ret (se_tup (sa_cons se_str (sa_cons (se_var 5 n_law_due_k v_law_due_0_k) sa_nil))))) sb_nil))) (sb_cons (ss_if (st_not (st_tru (se_call (d_law_is_fit KX G c) (hr.mono (by omega)) tk g_law_due_0_law_is_fit (sr_var 2 n_law_due_columns v_law_due_0_columns (sr_var 3 n_law_due_length v_law_due_0_length sr_nil))))) (sb_one (ss_ret (se_tup (sa_cons se_str (sa_cons (se_var 2 n_law_due_columns v_law_due_0_columns) sa_nil))))) sb_nil) (sb_cons (ss_set 6 nd_law_due n_law_due_begin l_law_due_0_begin (Or.inl rfl) (se_op os_add (se_var 4 n_law_due_shift v_law_due_0_shift) (se_op os_mulI (se_var 1 n_law_due_number v_law_due_0_number) (se_var 3 n_law_due_length v_law_due_0_length)))) (sb_cons (ss_for (passes_of rfl) rfl (si_seq (se_tup (sa_cons (se_var 6 n_law_due_begin v_law_due_0_begin) (sa_cons (se_op os_add (se_var 6 n_law_due_begin v_law_due_0_begin) (se_var 3 n_law_due_length v_law_due_0_length)) sa_nil)))) (sg_name 7 nd_law_due n_law_due_edge l_law_due_0_edge (Or.inl rfl)) (sb_one (ss_if (st_not (st_tru (se_call (d_law_is_near KX G c) (hr.mono (by omega)) tk g_law_due_0_law_is_near (sr_var 7 n_law_due_edge v_law_due_0_edge sr_nil)))) (sb_one (ss_ret (se_tup (sa_cons se_str (sa_cons (se_var 7 n_law_due_edge v_law_due_0_edge) sa_nil))))) sb_nil))) (sb_one (ss_ret (se_call (d_law_cells KX G c) (hr.mono (by omega)) tk g_law_due_0_law_cells (sr_cons (se_call (d_law_union KX G c) (hr.mono (by omega)) tk g_law_due_0_law_union (sr_var 0 n_law_due_spans v_law_due_0_spans (sr_cons se_bl sr_nil))) (sr_var 6 n_law_due_begin v_law_due_0_begin (sr_var 3 n_law_due_length v_law_due_0_length (sr_var 2 n_law_due_columns v_law_due_0_columns sr_nil)))))))))))
theorem d_law_due (KX : K.In h) (G : h.Ns mainGlobals mg) (c : SaysF fa fn fx K) : Dfn P w K mg base "_law_due" 4 m_law_due [] := dfn_core (e_law_due KX G c) (He.glo_ok KX G (c.d.fact 68 rfl)) (fun _ _ _ _ _ _ us hl => match us, hl with | [_, _, _, _, _], _ => rfl)
theorem e_law_by_columns (KX : K.In h) (G : h.Ns mainGlobals mg) (c : SaysF fa fn fx K) : Core P w K mg base (He.fAd K ((Str.ofString "_law_by_columns"), none)) (Str.ofString "_law_by_columns") (Str.ofString "_law_by_columns") (defArgs s_law_by_columns) (defBody s_law_by_columns) sc_law_by_columns (df_law_by_columns.dvs K) (df_law_by_columns.kws K) 2 P_law_by_columns m_law_by_columns := by
  obtain ⟨fd, F⟩ := c.d.def_ 43 (d := df_law_by_columns) rfl
  refine core_mk (N := N_law_by_columns) (ps := P_law_by_columns) F so_law_by_columns fun cdv A outer s H E hr => ?_
  have tk : Takes (cxOf (L2.CX P w) P w K mg base N_law_by_columns (Str.ofString "_law_by_columns") sc_law_by_columns (He.fAd K ((Str.ofString "_law_by_columns"), none)) cdv A outer s H E) (wDef E) := takes_of rfl rfl rfl rfl
  exact (sb_cons (ss_par (i := 4) (j := 5) rfl nd_law_by_columns n_law_by_columns_one n_law_by_columns_two (by decide) il_law_by_columns_0_one il_law_by_columns_0_two (sa_cons (se_call (d_law_take KX G c) (hr.mono (by omega)) tk g_law_by_columns_0_law_take (sr_var 0 n_law_by_columns_bag v_law_by_columns_0_bag (sr_cons (se_op os_add (se_var 3 n_law_by_columns_columns v_law_by_columns_0_columns) se_int) sr_nil))) (sa_cons (se_call (d_law_take KX G c) (hr.mono (by omega)) tk g_law_by_columns_0_law_take (sr_var 0 n_law_by_columns_bag v_law_by_columns_0_bag (sr_cons (se_op os_add (se_var 3 n_law_by_columns_columns v_law_by_columns_0_columns) se_int) sr_nil))) sa_nil)) (by rfl)) (sb_cons (ss_set 6 nd_law_by_columns n_law_by_columns_start l_law_by_columns_0_start (Or.inl rfl) (se_op os_sub (se_op os_add (se_op os_add (se_var 1 n_law_by_columns_begin v_law_by_columns_0_begin) (se_op os_mulI (se_callB (cs_min2 rfl) (He.free_ok KX G (c.d.fact 39 rfl)) g_law_by_columns_0_min (by decide +kernel) (sa_cons (se_callTy cs_int1s (He.free_ok KX G (c.d.fact 20 rfl)) g_law_by_columns_0_int (by decide +kernel) (sa_cons (se_var 4 n_law_by_columns_one v_law_by_columns_0_one) sa_nil)) (sa_cons (se_callTy cs_int1s (He.free_ok KX G (c.d.fact 20 rfl)) g_law_by_columns_0_int (by decide +kernel) (sa_cons (se_var 5 n_law_by_columns_two v_law_by_columns_0_two) sa_nil)) sa_nil))) (se_var 2 n_law_by_columns_wide v_law_by_columns_0_wide))) (se_call (d_law_take KX G c) (hr.mono (by omega)) tk g_law_by_columns_0_law_take (sr_var 0 n_law_by_columns_bag v_law_by_columns_0_bag (sr_cons se_int sr_nil)))) se_int)) (sb_one (ss_ret (se_tup (sa_cons (se_var 6 n_law_by_columns_start v_law_by_columns_0_start) (sa_cons (se_callB (cs_max2 rfl) (He.free_ok KX G (c.d.fact 37 rfl)) g_law_by_columns_0_max (by decide +kernel) (sa_cons (se_callTy cs_int1s (He.free_ok KX G (c.d.fact 20 rfl)) g_law_by_columns_0_int (by decide +kernel) (sa_cons (se_var 6 n_law_by_columns_start v_law_by_columns_0_start) sa_nil)) (sa_cons (se_callTy cs_int1s (He.free_ok KX G (c.d.fact 20 rfl)) g_law_by_columns_0_int (by decide +kernel) (sa_cons (se_op os_sub (se_op os_add (se_op os_add (se_var 1 n_law_by_columns_begin v_law_by_columns_0_begin) (se_op os_mulI (se_callB (cs_max2 rfl) (He.free_ok KX G (c.d.fact 37 rfl)) g_law_by_columns_0_max (by decide +kernel) (sa_cons (se_callTy cs_int1s (He.free_ok KX G (c.d.fact 20 rfl)) g_law_by_columns_0_int (by decide +kernel) (sa_cons (se_var 4 n_law_by_columns_one v_law_by_columns_0_one) sa_nil)) (sa_cons (se_callTy cs_int1s (He.free_ok KX G (c.d.fact 20 rfl)) g_law_by_columns_0_int (by decide +kernel) (sa_cons (se_var 5 n_law_by_columns_two v_law_by_columns_0_two) sa_nil)) sa_nil))) (se_var 2 n_law_by_columns_wide v_law_by_columns_0_wide))) (se_call (d_law_take KX G c) (hr.mono (by omega)) tk g_law_by_columns_0_law_take (sr_var 0 n_law_by_columns_bag v_law_by_columns_0_bag (sr_cons se_int sr_nil)))) se_int) sa_nil)) sa_nil))) sa_nil)))))))
theorem d_law_by_columns (KX : K.In h) (G : h.Ns mainGlobals mg) (c : SaysF fa fn fx K) : Dfn P w K mg base "_law_by_columns" 2 m_law_by_columns [] := dfn_core (e_law_by_columns KX G c) (He.glo_ok KX G (c.d.fact 69 rfl)) (fun _ _ _ _ _ _ us hl => match us, hl with | [_, _, _, _], _ => rfl)
theorem e_law_right (KX : K.In h) (G : h.Ns mainGlobals mg) (c : SaysF fa fn fx K) : Core P w K mg base (He.fAd K ((Str.ofString "_law_right"), none)) (Str.ofString "_law_right") (Str.ofString "_law_right") (defArgs s_law_right) (defBody s_law_right) sc_law_right (df_law_right.dvs K) (df_law_right.kws K) 9 P_law_right m_law_right := by
  obtain ⟨fd, F⟩ := c.d.def_ 44 (d := df_law_right) rfl
  refine core_mk (N := N_law_right) (ps := P_law_right) F so_law_right fun cdv A outer s H E hr => ?_
  have tk : Takes (cxOf (L2.CX P w) P w K mg base N_law_right (Str.ofString "_law_right") sc_law_right (He.fAd K ((Str.ofString "_law_right"), none)) cdv A outer s H E) (wDef E) := takes_of rfl rfl rfl rfl
  exact (sb_cons (ss_asg (sg_tup (n := 2) rfl (sgs_cons (sg_name 1 nd_law_right n_law_right_length l_law_right_0_length (Or.inl rfl)) (sgs_cons (sg_name 2 nd_law_right n_law_right_shift l_law_right_0_shift (Or.inl rfl)) sgs_nil)) rfl) (se_call (d_law_days KX G c) (hr.mono (by omega)) tk g_law_right_0_law_days (sr_var 0 n_law_right_bag v_law_right_0_bag sr_nil))) (sb_cons (ss_asg (sg_tup (n := 2) rfl (sgs_cons (sg_name 3 nd_law_right n_law_right_columns l_law_right_0_columns (Or.inl rfl)) (sgs_cons (sg_name 4 nd_law_right n_law_right_number l_law_right_0_number (Or.inl rfl)) sgs_nil)) rfl) (se_tup (sa_cons (se_call (d_law_columns KX G c) (hr.mono (by omega)) tk g_law_right_0_law_columns (sr_var 0 n_law_right_bag v_law_right_0_bag (sr_var 1 n_law_right_length v_law_right_0_length sr_nil))) (sa_cons (se_op os_sub (se_call (d_law_take KX G c) (hr.mono (by omega)) tk g_law_right_0_law_take (sr_var 0 n_law_right_bag v_law_right_0_bag (sr_cons se_int sr_nil))) se_int) sa_nil)))) (sb_cons (ss_asg (sg_tup (n := 2) rfl (sgs_cons (sg_name 5 nd_law_right n_law_right_days l_law_right_0_days (Or.inl rfl)) (sgs_cons (sg_name 6 nd_law_right n_law_right_begin l_law_right_0_begin (Or.inl rfl)) sgs_nil)) rfl) (se_tup (sa_cons (se_fz (sef_make (C := "Days") (cs_Days___init_2_offset KX G c) (He.glo_ok KX G (c.d.fact 70 rfl)) (hr.mono (by omega)) tk g_law_right_0_Days (sc_kw (ks := [(Str.ofString "offset")]) 1 (sr_var 1 n_law_right_length v_law_right_0_length sr_nil) (sk_cons (se_var 2 n_law_right_shift v_law_right_0_shift) sk_nil)))) (sa_cons (se_op os_add (se_var 2 n_law_right_shift v_law_right_0_shift) (se_op os_mulI (se_var 4 n_law_right_number v_law_right_0_number) (se_var 1 n_law_right_length v_law_right_0_length))) sa_nil)))) (sb_cons (ss_setLc 7 (own := [((Str.ofString "k"), 14)]) rfl nd_law_right n_law_right_spans il_law_right_0_spans (by rfl) (si_rng1 (He.free_ok KX G (c.d.fact 45 rfl)) g_law_right_0_range (sa_cons (se_call (d_law_take KX G c) (hr.mono (by omega)) tk g_law_right_0_law_take (sr_var 0 n_law_right_bag v_law_right_0_bag (sr_cons se_int sr_nil))) sa_nil)) (blkOk_by (N := N_law_right) (sc := sc_law_right) (scope := sc_law_right_1r) (by decide +kernel)) (by decide) (fun _ _ _ _ _ => (sg_name 14 nd_law_right n_law_right_k l_law_right_1_k (Or.inr il_law_right_1_k))) (fun _ _ _ _ _ => sts_nil) (fun _ _ _ _ _ => (se_call (d_law_about KX G c) (hr.mono (by omega)) takes0 g_law_right_1_law_about (sr_var 0 n_law_right_bag v_law_right_1_bag (sr_var 1 n_law_right_length v_law_right_1_length (sr_var 2 n_law_right_shift v_law_right_1_shift sr_nil)))))) (sb_cons (ss_set 7 nd_law_right n_law_right_spans l_law_right_0_spans (Or.inl rfl) (se_op os_add (se_var 7 n_law_right_spans v_law_right_0_spans) (se_fz (sef_comp (own := [((Str.ofString "k"), 14)]) rfl nd_law_right (si_rng1 (He.free_ok KX G (c.d.fact 45 rfl)) g_law_right_0_range (sa_cons (se_call (d_law_take KX G c) (hr.mono (by omega)) tk g_law_right_0_law_take (sr_var 0 n_law_right_bag v_law_right_0_bag (sr_cons se_int sr_nil))) sa_nil)) (blkOk_by (N := N_law_right) (sc := sc_law_right) (scope := sc_law_right_2r) (by decide +kernel)) (by decide) (fun _ _ _ _ _ => (sg_name 14 nd_law_right n_law_right_k l_law_right_2_k (Or.inr il_law_right_2_k))) (fun _ _ _ _ _ => sts_nil) (fun _ _ _ _ _ => (se_call (d_law_by_columns KX G c) (hr.mono (by omega)) takes0 g_law_right_2_law_by_columns (sr_var 0 n_law_right_bag v_law_right_2_bag (sr_var 6 n_law_right_begin v_law_right_2_begin (sr_cons (se_op os_fdiv (se_var 1 n_law_right_length v_law_right_2_length) (se_var 3 n_law_right_columns v_law_right_2_columns)) (sr_var 3 n_law_right_columns v_law_right_2_columns sr_nil)))))))))) (sb_cons (ss_set 8 nd_law_right n_law_right_kept l_law_right_0_kept (Or.inl rfl) (se_callTy cs_list1 (He.free_ok KX G (c.d.fact 53 rfl)) g_law_right_0_list (by decide +kernel) (sa_cons (se_var 7 n_law_right_spans v_law_right_0_spans) sa_nil))) (sb_cons (ss_set 9 nd_law_right n_law_right_edge l_law_right_0_edge (Or.inl rfl) (se_op os_sub (se_op os_add (se_op os_fdiv (se_op os_sub (se_call (d_law_of KX G c) (hr.mono (by omega)) tk g_law_right_0_law_of (sr_var 0 n_law_right_bag v_law_right_0_bag (sr_cons (se_fz (sef_lst (sa_cons (se_op os_pow se_int se_int) (sa_cons (se_un us_neg (se_op os_pow se_int se_int)) sa_nil)))) sr_nil))) (se_var 2 n_law_right_shift v_law_right_0_shift)) (se_var 1 n_law_right_length v_law_right_0_length)) (se_call (d_law_take KX G c) (hr.mono (by omega)) tk g_law_right_0_law_take (sr_var 0 n_law_right_bag v_law_right_0_bag (sr_cons se_int sr_nil)))) se_int)) (sb_cons (ss_set 10 nd_law_right n_law_right_odd l_law_right_0_odd (Or.inl rfl) (se_call (d_law_of KX G c) (hr.mono (by omega)) tk g_law_right_0_law_of (sr_var 0 n_law_right_bag v_law_right_0_bag (sr_cons (se_fz (sef_lst (sa_cons se_non (sa_cons se_bl (sa_cons se_int (sa_cons (se_un us_neg se_int) (sa_cons se_int (sa_cons se_int (sa_cons se_int (sa_cons se_int (sa_cons se_str (sa_cons (se_tup (sa_cons se_int sa_nil)) (sa_cons (se_var 1 n_law_right_length v_law_right_0_length) (sa_cons (se_op os_add (se_var 1 n_law_right_length v_law_right_0_length) se_int) (sa_cons (se_op os_pow se_int se_int) (sa_cons (se_fz (sef_lst (sa_cons se_int sa_nil))) (sa_cons se_int sa_nil))))))))))))))))) sr_nil)))) (sb_cons (ss_for (passes_of rfl) rfl (si_seq (se_tup (sa_cons (se_fz (sef_lst (sa_cons (se_var 4 n_law_right_number v_law_right_0_number) (sa_cons (se_var 3 n_law_right_columns v_law_right_0_columns) sa_nil)))) (sa_cons (se_fz (sef_lst (sa_cons (se_var 9 n_law_right_edge v_law_right_0_edge) (sa_cons (se_var 3 n_law_right_columns v_law_right_0_columns) sa_nil)))) (sa_cons (se_fz (sef_lst (sa_cons (se_var 4 n_law_right_number v_law_right_0_number) (sa_cons (se_var 10 n_law_right_odd v_law_right_0_odd) sa_nil)))) (sa_cons (se_fz (sef_lst (sa_cons (se_var 9 n_law_right_edge v_law_right_0_edge) (sa_cons (se_var 10 n_law_right_odd v_law_right_0_odd) sa_nil)))) (sa_cons (se_fz (sef_lst (sa_cons (se_var 4 n_law_right_number v_law_right_0_number) (sa_cons se_int sa_nil)))) sa_nil))))))) (sg_name 11 nd_law_right n_law_right_pair l_law_right_0_pair (Or.inl rfl)) (sb_cons (ss_set 12 nd_law_right n_law_right_told l_law_right_0_told (Or.inl rfl) (se_call (d_law_told KX G c) (hr.mono (by omega)) tk g_law_right_0_law_told (sr_var 5 n_law_right_days v_law_right_0_days (sr_var 7 n_law_right_spans v_law_right_0_spans (sr_cons (se_ixN 11 n_law_right_pair v_law_right_0_pair se_int) (sr_cons (se_ixN 11 n_law_right_pair v_law_right_0_pair se_int) sr_nil)))))) (sb_one (ss_if (st_w (stw_or (st_not (st_tru (se_call (d_law_is_strict KX G c 6) (hr.mono (by omega)) tk g_law_right_0_law_is_strict (sr_var 12 n_law_right_told v_law_right_0_told (sr_cons (se_call (d_law_due KX G c) (hr.mono (by omega)) tk g_law_right_0_law_due (sr_var 8 n_law_right_kept v_law_right_0_kept (sr_cons (se_ixN 11 n_law_right_pair v_law_right_0_pair se_int) (sr_cons (se_ixN 11 n_law_right_pair v_law_right_0_pair se_int) (sr_var 1 n_law_right_length v_law_right_0_length (sr_var 2 n_law_right_shift v_law_right_0_shift sr_nil)))))) sr_nil))))) (stw_or1 (st_cmp (os_ne hr.units) (se_var 7 n_law_right_spans v_law_right_0_spans) (se_var 8 n_law_right_kept v_law_right_0_kept) (nomark _))))) (sb_one (ss_ret se_bl)) sb_nil)))) (sb_cons (ss_set 13 nd_law_right n_law_right_mixed l_law_right_0_mixed (Or.inl rfl) (se_op os_add (se_var 7 n_law_right_spans v_law_right_0_spans) (se_fz (sef_lst (sa_cons (se_call (d_law_odd KX G c) (hr.mono (by omega)) tk g_law_right_0_law_odd (sr_var 0 n_law_right_bag v_law_right_0_bag sr_nil)) sa_nil))))) (sb_one (ss_ret (se_call (d_law_is_strict KX G c 6) (hr.mono (by omega)) tk g_law_right_0_law_is_strict (sr_cons (se_call (d_law_told KX G c) (hr.mono (by omega)) tk g_law_right_0_law_told (sr_var 5 n_law_right_days v_law_right_0_days (sr_cons (se_callTy cs_tuple1 (He.free_ok KX G (c.d.fact 27 rfl)) g_law_right_0_tuple (by decide +kernel) (sa_cons (se_var 13 n_law_right_mixed v_law_right_0_mixed) sa_nil)) (sr_var 9 n_law_right_edge v_law_right_0_edge (sr_var 10 n_law_right_odd v_law_right_0_odd sr_nil))))) (sr_cons (se_call (d_law_due KX G c) (hr.mono (by omega)) tk g_law_right_0_law_due (sr_var 13 n_law_right_mixed v_law_right_0_mixed (sr_var 9 n_law_right_edge v_law_right_0_edge (sr_var 10 n_law_right_odd v_law_right_0_odd (sr_var 1 n_law_right_length v_law_right_0_length (sr_var 2 n_law_right_shift v_law_right_0_shift sr_nil)))))) sr_nil)))))))))))))))
theorem d_law_right (KX : K.In h) (G : h.Ns mainGlobals mg) (c : SaysF fa fn fx K) : Dfn P w K mg base "_law_right" 9 m_law_right [] := dfn_core (e_law_right KX G c) (He.glo_ok KX G (c.d.fact 71 rfl)) (fun _ _ _ _ _ _ us hl => match us, hl with | [_], _ => rfl)
theorem e_law (KX : K.In h) (G : h.Ns mainGlobals mg) (c : SaysF fa fn fx K) : Core P w K mg base (He.fAd K ((Str.ofString "law"), none)) (Str.ofString "law") (Str.ofString "law") (defArgs s_law) (defBody s_law) sc_law (df_law.dvs K) (df_law.kws K) 10 P_law m_law := by
  obtain ⟨fd, F⟩ := c.d.def_ 45 (d := df_law) rfl
  refine core_mk (N := N_law) (ps := P_law) F so_law fun cdv A outer s H E hr => ?_
  have tk : Takes (cxOf (L2.CX P w) P w K mg base N_law (Str.ofString "law") sc_law (He.fAd K ((Str.ofString "law"), none)) cdv A outer s H E) (wDef E) := takes_of rfl rfl rfl rfl
  exact (sb_cons (ss_for (passes_of rfl) rfl (si_rng1 (He.free_ok KX G (c.d.fact 45 rfl)) g_law_0_range (sa_cons (se_callB (cs_max2 rfl) (He.free_ok KX G (c.d.fact 37 rfl)) g_law_0_max (by decide +kernel) (sa_cons se_int (sa_cons (se_callB (cs_min2 rfl) (He.free_ok KX G (c.d.fact 39 rfl)) g_law_0_min (by decide +kernel) (sa_cons se_int (sa_cons (se_callBN 0 call_len lenR_ok (He.free_ok KX G (c.d.fact 28 rfl)) g_law_0_len (by decide +kernel) n_law_script v_law_0_script) sa_nil))) sa_nil))) sa_nil)) (sg_name 1 nd_law n_law_at l_law_0_at (Or.inl rfl)) (sb_cons (ss_setF 2 nd_law n_law_bag l_law_0_bag (Or.inl rfl) (sef_call (d_law_bag KX G c) (hr.mono (by omega)) tk g_law_0_law_bag (sr_var 0 n_law_script v_law_0_script (sr_var 1 n_law_at v_law_0_at sr_nil)))) (sb_one (ss_for (passes_of rfl) rfl (si_rng1 (He.free_ok KX G (c.d.fact 45 rfl)) g_law_0_range (sa_cons se_int sa_nil)) (sg_name 3 nd_law n_law_turn l_law_0_turn (Or.inl rfl)) (sb_one (ss_if (st_not (st_tru (se_call (d_law_right KX G c) (hr.mono (by omega)) tk g_law_0_law_right (sr_var 2 n_law_bag v_law_0_bag sr_nil)))) (sb_one (ss_ret se_bl)) sb_nil)))))) (sb_one (ss_ret se_bl)))
theorem d_law (KX : K.In h) (G : h.Ns mainGlobals mg) (c : SaysF fa fn fx K) : Dfn P w K mg base "law" 10 m_law [] := dfn_core (e_law KX G c) (He.glo_ok KX G (c.d.fact 72 rfl)) (fun _ _ _ _ _ _ us hl => match us, hl with | [_], _ => rfl)
end Q
set_option Elab.async false
set_option linter.all false
set_option maxRecDepth 100000
set_option maxHeartbeats 1000000
namespace Q
open PySem
open PySem.Spec
open L2
open FL
/-- a bag of the law -/
def bagD (a b c : Int) : SV := .bor (.lst [.int a, .int b, .int c])
theorem log2_lt {i : Int} {n : Nat} (h0 : 0 ≤ i) (hn : n ≠ 0) (h : i < 2 ^ n) : i.natAbs.log2 < n := by
  have h1 : i.natAbs < 2 ^ n := by
    have : ((i.natAbs : Nat) : Int) < ((2 ^ n : Nat) : Int) := by
      rw [Int.natAbs_of_nonneg h0]
      exact_mod_cast h
    exact_mod_cast this
  by_cases h2 : i.natAbs = 0
  · rw [h2]
    simpa using Nat.pos_of_ne_zero hn
  · exact (Nat.log2_lt h2).mpr h1
theorem take1 {a b c many : Int} (ha : 0 < a) (hm : 0 < many) (hl : many.natAbs.log2 < 9000) : m_law_take [bagD a b c, .d (.int many)] = some (.ret (.d (.int (a % many))) [bagD (a / many) b c, .d (.int many)]) := by
  have h1 : dGt (.int a) (.int 0) = some (.bl true) := by simp [dGt, ha]
  have h2 : dMod (.int a) (.int many) = some (.int (a % many)) := by simp [dMod, hm]
  have h3 : dFdiv (.int a) (.int many) = some (.int (a / many)) := by simp [dFdiv, fdivOk, hm, hl]
  have i0 : dIx (.lst [.int a, .int b, .int c]) (.int 0) = some (.int a) := rfl
  simp [m_law_take, b_law_take, mkF, bagD, sSeq, sIf, sE, mT, m2, mIxN, mNm, itemOf, M.bind, M.ret, M.opt, i0, h1, h2, h3, sSet, sOpt, setD, mB, mCons, mNil, gInt1s, mVar, sSetAt, setAt, sRetV, up, outs, outOf, L2.ixN]
/-- the hash's road -/
def mix1 (b c : Int) : Int := ((b + 999983 * c) ^ 3) % 2305843009213693921
def mix2 (b c : Int) : Int := ((mix1 b c + 49979687 * c) ^ 2) % 2305843009213693951
theorem mix1_b {b c : Int} : 0 ≤ mix1 b c ∧ mix1 b c < 2305843009213693921 := ⟨Int.emod_nonneg _ (by decide), Int.emod_lt_of_pos _ (by decide)⟩
theorem mix2_b {b c : Int} : 0 ≤ mix2 b c ∧ mix2 b c < 2305843009213693951 := ⟨Int.emod_nonneg _ (by decide), Int.emod_lt_of_pos _ (by decide)⟩
theorem take2 {a b c many : Int} (ha : a ≤ 0) (hb : 0 ≤ b) (hb2 : b ≤ 2 ^ 63 + 2 ^ 62) (hc : 0 ≤ c) (hc2 : c < 1000000) (hm : 0 < many) :
    m_law_take [bagD a b c, .d (.int many)] = some (.ret (.d (.int (mix2 b (c + 1) / 1024 % many))) [bagD a b (c + 1), .d (.int many)]) := by
  have h1 : dGt (.int a) (.int 0) = some (.bl false) := by simp [dGt]; omega
  have i0 : dIx (.lst [.int a, .int b, .int c]) (.int 0) = some (.int a) := rfl
  have i2 : dIx (.lst [.int a, .int b, .int c]) (.int 2) = some (.int c) := rfl
  have j1 : dIx (.lst [.int a, .int b, .int (c + 1)]) (.int 1) = some (.int b) := rfl
  have j2 : dIx (.lst [.int a, .int b, .int (c + 1)]) (.int 2) = some (.int (c + 1)) := rfl
  have a1 : dAdd (.int c) (.int 1) = some (.int (c + 1)) := rfl
  have l0 : (c + 1).natAbs.log2 < 64 := log2_lt (by omega) (by decide) (by omega)
  have l1 : (999983 : Int).natAbs.log2 = 19 := by decide +kernel
  have l2 : (49979687 : Int).natAbs.log2 = 25 := by decide +kernel
  have m1 : dMulI (.int 999983) (.int (c + 1)) = some (.int (999983 * (c + 1))) := by
    have : mulOk 999983 (c + 1) := by unfold mulOk; rw [l1]; omega
    simp [dMulI, this]
  have a2 : dAdd (.int b) (.int (999983 * (c + 1))) = some (.int (b + 999983 * (c + 1))) := rfl
  have p1 : dPow (.int (b + 999983 * (c + 1))) (.int 3) = some (.int ((b + 999983 * (c + 1)) ^ 3)) := by
    have : powOk (b + 999983 * (c + 1)) 3 := ⟨by decide, by decide, by omega⟩
    simp only [dPow, this, if_true]
    rfl
  have d1 : dMod (.int ((b + 999983 * (c + 1)) ^ 3)) (.int 2305843009213693921) = some (.int (mix1 b (c + 1))) := by simp [dMod, mix1]
  have m2' : dMulI (.int 49979687) (.int (c + 1)) = some (.int (49979687 * (c + 1))) := by
    have : mulOk 49979687 (c + 1) := by unfold mulOk; rw [l2]; omega
    simp [dMulI, this]
  have a3 : dAdd (.int (mix1 b (c + 1))) (.int (49979687 * (c + 1))) = some (.int (mix1 b (c + 1) + 49979687 * (c + 1))) := rfl
  have q := mix1_b (b := b) (c := c + 1)
  have p2 : dPow (.int (mix1 b (c + 1) + 49979687 * (c + 1))) (.int 2) = some (.int ((mix1 b (c + 1) + 49979687 * (c + 1)) ^ 2)) := by
    have : powOk (mix1 b (c + 1) + 49979687 * (c + 1)) 2 := ⟨by decide, by decide, by omega⟩
    simp only [dPow, this, if_true]
    rfl
  have d2 : dMod (.int ((mix1 b (c + 1) + 49979687 * (c + 1)) ^ 2)) (.int 2305843009213693951) = some (.int (mix2 b (c + 1))) := by simp [dMod, mix2]
  have f1 : dFdiv (.int (mix2 b (c + 1))) (.int 1024) = some (.int (mix2 b (c + 1) / 1024)) := by
    have : fdivOk (mix2 b (c + 1)) 1024 := ⟨by decide, by decide +kernel⟩
    simp [dFdiv, this]
  have d3 : dMod (.int (mix2 b (c + 1) / 1024)) (.int many) = some (.int (mix2 b (c + 1) / 1024 % many)) := by simp [dMod, hm]
  simp [m_law_take, b_law_take, mkF, bagD, sSeq, sIf, sE, mT, m2, mIxN, mNm, itemOf, M.bind, M.ret, M.opt, i0, i2, j1, j2, h1, a1, a2, a3, m1, m2', p1, p2, d1, d2, d3, f1, sSet, sOpt, setD, mB, mCons, mNil, gInt1s, mVar, sSetAt, setAt, sRetV, sRet, up, outs, outOf, L2.ixN]
mutual
def okS : Nat → D → Bool
  | 0, _ => false
  | _ + 1, .non => true
  | _ + 1, .bl _ => true
  | _ + 1, .int _ => true
  | _ + 1, .str _ => true
  | n + 1, .tup xs => decide (xs.length ≤ 10000000) && oksS n xs
  | n + 1, .lst xs => decide (xs.length ≤ 10000000) && oksS n xs
  | _ + 1, _ => false
def oksS : Nat → List D → Bool
  | _, [] => true
  | n, x :: xs => okS n x && oksS n xs
end
theorem oksS_mem {n : Nat} : ∀ {xs : List D}, oksS n xs = true → ∀ x ∈ xs, okS n x = true
  | [], _, x, hx => by cases hx
  | y :: ys, h, x, hx => by
    unfold oksS at h
    obtain ⟨h1, h2⟩ := and_tt h
    rcases List.mem_cons.mp hx with rfl | hx
    · exact h1
    · exact oksS_mem h2 x hx
theorem isi_eq {d : D} {t u : String} {b : Bool} (h : tyN d = some (.b t)) (ho : okIns ins d = true) (hl : lkT kt (.b t) (.b u) = some b) : gIsi kt ins [d, .ty u] = some (.bl b) := by
  simp only [gIsi, h, clN, ho, if_true, hl]
  rfl
theorem strict_seq {n : Nat} {d : D} {xs : List D} (hx : d = .tup xs ∨ d = .lst xs) (hl : xs.length ≤ 10000000) (ih : ∀ x ∈ xs, m_law_is_strict n [.d x, .d x] = some (.ret (.d (.bl true)) [.d x, .d x])) :
    m_law_is_strict (n + 1) [.d d, .d d] = some (.ret (.d (.bl true)) [.d d, .d d]) := by
  have hix : ∀ (k : Nat) x, xs[k]? = some x → dIx d (.int (k : Int)) = some x := fun k x h => by
    rcases hx with rfl | rfl
    · exact dIx_tup h
    · exact dIx_lst h
  have hlen : gLen [d] = some (.int xs.length) := by rcases hx with rfl | rfl <;> rfl
  have ht : ∃ q, gIsi kt ins [d, .ty "tuple"] = some (.bl q) ∧ ∃ q2, gIsi kt ins [d, .ty "list"] = some (.bl q2) ∧ (q || q2) = true := by
    rcases hx with rfl | rfl
    · exact ⟨true, isi_eq (t := "tuple") rfl rfl (by decide +kernel), false, isi_eq (t := "tuple") rfl rfl (by decide +kernel), rfl⟩
    · exact ⟨false, isi_eq (t := "list") rfl rfl (by decide +kernel), true, isi_eq (t := "list") rfl rfl (by decide +kernel), rfl⟩
  obtain ⟨q, e1, q2, e2, eq⟩ := ht
  have hn : ∀ q : Bool, dNe (.bl q) (.bl q) = some (.bl false) := fun q => by cases q <;> rfl
  have hni : dNe (.int xs.length) (.int xs.length) = some (.bl false) := by simp [dNe, dEq, dOr, dEqS, scV, scal, dNot]
  have hr : rng1 [.int (xs.length : Int)] = some ((List.range xs.length).map fun (i : Nat) => D.int (0 + (i : Int))) := by
    have h1 : -(2 ^ 62 : Int) ≤ (xs.length : Int) := by omega
    have h2 : (xs.length : Int) < 2 ^ 62 := by omega
    simp only [rng1, h1, h2, and_self, if_true, Int.toNat_natCast]
  have hcomp : compL [2] (setD 2) (M.ret true) (mCall (m_law_is_strict n) [] (rCons (mIxN 0 (mVar 2)) (rCons (mIxN 1 (mVar 2)) rNil))) ((List.range xs.length).map fun (i : Nat) => D.int (0 + (i : Int))) [] [some (.d d), some (.d d), none] =
      some (.ok ([] ++ ((List.range xs.length).map fun (i : Nat) => D.int (0 + (i : Int))).map fun _ => .bl true) [some (.d d), some (.d d), none]) := by
    refine compL_map (h := fun _ => .bl true) (fun y hy => ?_) (by rw [List.length_map, List.length_range, sizeLine_eq, List.length_nil]; omega)
    obtain ⟨k, hk, rfl⟩ := List.mem_map.mp hy
    have hk' : k < xs.length := List.mem_range.mp hk
    have e := hix k _ (List.getElem?_eq_getElem hk')
    have i := ih _ (List.getElem_mem hk')
    simp [inner, noCell, wipeE, setD, turnC, M.bind, M.ret, mCall, rCons, mIxN, mNm, mVar, itemOf, e, rNil, callM, arsSV, arSV, slotsOf, i, rvD, putB, restE]
  have hall : gAll [.lst (((List.range xs.length).map fun (i : Nat) => D.int (0 + (i : Int))).map fun _ => .bl true)] = some (.bl true) := by
    have : ∀ l : List D, blsD (l.map fun _ => D.bl true) = some (l.map fun _ => true) := fun l => by
      induction l with
      | nil => rfl
      | cons x l ih => simp [blsD, ih]
    show (blsD _).map _ = _
    rw [this]
    simp
  have hsc : isSc (.int (xs.length : Int)) = true := rfl
  cases q <;> cases q2 <;> simp_all [m_law_is_strict, b_law_is_strict, mkF, up, sSeq, sIf, sE, mTOr, mTru, mB, mCons, mNil, mVar, M.bind, M.ret, M.opt, dTru, mT, m2, mBN, nmD, sRet, mFz, mComp, mRng, fz, outs, outOf]
theorem strict_refl : ∀ (n : Nat) (d : D), okS n d = true → m_law_is_strict n [.d d, .d d] = some (.ret (.d (.bl true)) [.d d, .d d])
  | 0, d, h => by unfold okS at h; cases h
  | n + 1, d, h => by
    cases d with
    | tup xs =>
      unfold okS at h
      obtain ⟨h1, h2⟩ := and_tt h
      exact strict_seq (.inl rfl) (of_decide_eq_true h1) fun x hx => strict_refl n x (oksS_mem h2 x hx)
    | lst xs =>
      unfold okS at h
      obtain ⟨h1, h2⟩ := and_tt h
      exact strict_seq (.inr rfl) (of_decide_eq_true h1) fun x hx => strict_refl n x (oksS_mem h2 x hx)
    | non =>
      have e0 : gIsi kt ins [.non, .ty "tuple"] = some (.bl false) := isi_eq (t := "NoneType") rfl rfl (by decide +kernel)
      have e1 : gIsi kt ins [.non, .ty "list"] = some (.bl false) := isi_eq (t := "NoneType") rfl rfl (by decide +kernel)
      simp [m_law_is_strict, b_law_is_strict, mkF, up, sSeq, sIf, sE, mTOr, mTru, mB, mCons, mNil, mVar, M.bind, M.ret, M.opt, dTru, mT, m2, sRet, outs, outOf, e0, e1, dIsN, FL.isNon]
    | bl q =>
      have e0 : gIsi kt ins [.bl q, .ty "tuple"] = some (.bl false) := isi_eq (t := "bool") rfl rfl (by decide +kernel)
      have e1 : gIsi kt ins [.bl q, .ty "list"] = some (.bl false) := isi_eq (t := "bool") rfl rfl (by decide +kernel)
      have e2 : gIsi kt ins [.bl q, .ty "str"] = some (.bl false) := isi_eq (t := "bool") rfl rfl (by decide +kernel)
      have e3 : gIsi kt ins [.bl q, .ty "int"] = some (.bl true) := isi_eq (t := "bool") rfl rfl (by decide +kernel)
      have e4 : gIsi kt ins [.bl q, .ty "bool"] = some (.bl true) := isi_eq (t := "bool") rfl rfl (by decide +kernel)
      have e5 : ∀ q : Bool, dEq (.bl q) (.bl q) = some (.bl true) := fun q => by cases q <;> rfl
      simp [m_law_is_strict, b_law_is_strict, mkF, up, sSeq, sIf, sE, mTOr, mTru, mB, mCons, mNil, mVar, M.bind, M.ret, M.opt, dTru, mT, m2, sRet, outs, outOf, mAnd, e0, e1, e2, e3, e4, e5, dIsN, FL.isNon]
    | int i =>
      have e0 : gIsi kt ins [.int i, .ty "tuple"] = some (.bl false) := isi_eq (t := "int") rfl rfl (by decide +kernel)
      have e1 : gIsi kt ins [.int i, .ty "list"] = some (.bl false) := isi_eq (t := "int") rfl rfl (by decide +kernel)
      have e2 : gIsi kt ins [.int i, .ty "str"] = some (.bl false) := isi_eq (t := "int") rfl rfl (by decide +kernel)
      have e3 : gIsi kt ins [.int i, .ty "int"] = some (.bl true) := isi_eq (t := "int") rfl rfl (by decide +kernel)
      have e4 : gIsi kt ins [.int i, .ty "bool"] = some (.bl false) := isi_eq (t := "int") rfl rfl (by decide +kernel)
      have e5 : dEq (.bl false) (.bl false) = some (.bl true) := rfl
      have e6 : dEq (.int i) (.int i) = some (.bl true) := by simp [dEq, dOr, dEqS, scV, scal]
      simp [m_law_is_strict, b_law_is_strict, mkF, up, sSeq, sIf, sE, mTOr, mTru, mB, mCons, mNil, mVar, M.bind, M.ret, M.opt, dTru, mT, m2, sRet, outs, outOf, mAnd, e0, e1, e2, e3, e4, e5, e6, dIsN, FL.isNon]
    | str y =>
      have e0 : gIsi kt ins [.str y, .ty "tuple"] = some (.bl false) := isi_eq (t := "str") rfl rfl (by decide +kernel)
      have e1 : gIsi kt ins [.str y, .ty "list"] = some (.bl false) := isi_eq (t := "str") rfl rfl (by decide +kernel)
      have e2 : gIsi kt ins [.str y, .ty "str"] = some (.bl true) := isi_eq (t := "str") rfl rfl (by decide +kernel)
      have e6 : dEq (.str y) (.str y) = some (.bl true) := by simp [dEq, dOr, dEqS, scV, scal]
      simp [m_law_is_strict, b_law_is_strict, mkF, up, sSeq, sIf, sE, mTOr, mTru, mB, mCons, mNil, mVar, M.bind, M.ret, M.opt, dTru, mT, m2, sRet, outs, outOf, mAnd, e0, e1, e2, e6, dIsN, FL.isNon]
    | ty n => unfold okS at h; cases h
    | cls n => unfold okS at h; cases h
    | ins C ks fs => unfold okS at h; cases h
def Bc (n : Nat) (c : Cell) : Prop := ∃ a b d : Int, c = .lst [.int a, .int b, .int d] ∧ 0 ≤ a ∧ 0 ≤ b ∧ b ≤ 2 ^ 63 + 2 ^ 62 ∧ 0 ≤ d ∧ d ≤ n
theorem Bc.mono {n m : Nat} {c : Cell} (h : Bc n c) (l : n ≤ m) : Bc m c := by
  obtain ⟨a, b, d, h1, h2, h3, h4, h5, h6⟩ := h
  exact ⟨a, b, d, h1, h2, h3, h4, h5, by omega⟩
theorem take {n : Nat} {c : Cell} {many : Int} (h : Bc n c) (hn : n < 900000) (hm : 0 < many) (hl : many.natAbs.log2 < 9000) :
    ∃ v c', m_law_take [.bor c, .d (.int many)] = some (.ret (.d (.int v)) [.bor c', .d (.int many)]) ∧ 0 ≤ v ∧ v < many ∧ Bc (n + 1) c' := by
  obtain ⟨a, b, d, rfl, h2, h3, h4, h5, h6⟩ := h
  by_cases ha : 0 < a
  · exact ⟨a % many, _, take1 ha hm hl, Int.emod_nonneg _ (by omega), Int.emod_lt_of_pos _ hm, a / many, b, d, rfl, Int.ediv_nonneg (by omega) (by omega), h3, h4, h5, by omega⟩
  · exact ⟨mix2 b (d + 1) / 1024 % many, _, take2 (by omega) h3 h4 h5 (by omega) hm, Int.emod_nonneg _ (by omega), Int.emod_lt_of_pos _ hm, a, b, d + 1, rfl, h2, h3, h4, by omega, by omega⟩
theorem of_ {n : Nat} {c : Cell} {xs : List D} (h : Bc n c) (hn : n < 900000) (hx : xs ≠ []) (hl : xs.length ≤ 1000) :
    ∃ x c', m_law_of [.bor c, .d (.lst xs)] = some (.ret (.d x) [.bor c', .d (.lst xs)]) ∧ x ∈ xs ∧ Bc (n + 1) c' := by
  have h0 : 0 < xs.length := List.length_pos_iff.mpr hx
  obtain ⟨v, c', e, h1, h2, h3⟩ := take (many := (xs.length : Int)) h hn (by omega) (Nat.lt_trans (log2_lt (i := (xs.length : Int)) (n := 20) (by omega) (by decide) (by omega)) (by decide))
  obtain ⟨k, rfl⟩ : ∃ k : Nat, v = (k : Int) := ⟨v.toNat, by omega⟩
  have hk : k < xs.length := by omega
  have ex := dIx_lst (List.getElem?_eq_getElem hk)
  have hsc : isSc (.int (xs.length : Int)) = true := rfl
  have hlen : gLen [.lst xs] = some (.int xs.length) := rfl
  refine ⟨xs[k], c', ?_, List.getElem_mem hk, h3⟩
  simp [m_law_of, b_law_of, mkF, up, sSeq, sIf, sE, mT, m2, mIxN, mNm, itemOf, M.bind, M.ret, M.opt, sSet, sOpt, setD, mB, mCons, mNil, mVar, sRetV, sRet, outs, outOf, mCall, rCons, rVar, rNil, mArV, callM, arsSV, arSV, slotsOf, putB, setCell, rvD, mBN, nmD, fz, hlen, hsc, e, ex]
theorem number {n : Nat} {c : Cell} (h : Bc n c) (hn : n < 800000) : ∃ v c', m_law_number [.bor c] = some (.ret (.d (.int v)) [.bor c']) ∧ -(10 ^ 31 - 1) < v ∧ v < 10 ^ 31 - 1 ∧ Bc (n + 4) c' := by
  obtain ⟨r, c1, e1, r1, r2, b1⟩ := take (many := 4) h (by omega) (by decide) (by decide +kernel)
  by_cases h2 : r < 2
  · obtain ⟨v, c2, e2, v1, v2, b2⟩ := take (many := 9) b1 (by omega) (by decide) (by decide +kernel)
    have hlt : dLt (.int r) (.int 2) = some (.bl true) := by simp [dLt, h2]
    have l1 : r.natAbs.log2 < 4 := log2_lt (by omega) (by decide) (by omega)
    have l3 : (3 : Int).natAbs.log2 = 1 := by decide +kernel
    have hm : dMulI (.int 3) (.int r) = some (.int (3 * r)) := by
      have : mulOk 3 r := by unfold mulOk; rw [l3]; omega
      simp [dMulI, this]
    have hs : dSub (.int v) (.int (3 * r)) = some (.int (v - 3 * r)) := rfl
    refine ⟨v - 3 * r, c2, ?_, by omega, by omega, b2.mono (by omega)⟩
    simp [m_law_number, b_law_number, mkF, up, sSeq, sIf, sE, mT, m2, mIxN, mNm, itemOf, M.bind, M.ret, M.opt, sSet, sOpt, setD, mB, mCons, mNil, mVar, sRetV, sRet, outs, outOf, mCall, rCons, rVar, rNil, mArV, callM, arsSV, arSV, slotsOf, putB, setCell, rvD, mBN, nmD, fz, e1, e2, hlt, hm, hs]
  · obtain ⟨g, c2, e2, g1, g2, b2⟩ := take (many := 2) b1 (by omega) (by decide) (by decide +kernel)
    have hlt : dLt (.int r) (.int 2) = some (.bl false) := by simp [dLt, h2]
    have l1 : g.natAbs.log2 < 4 := log2_lt (by omega) (by decide) (by omega)
    have l3 : (2 : Int).natAbs.log2 = 1 := by decide +kernel
    have hm : dMulI (.int 2) (.int g) = some (.int (2 * g)) := by
      have : mulOk 2 g := by unfold mulOk; rw [l3]; omega
      simp [dMulI, this]
    have hs : dSub (.int 1) (.int (2 * g)) = some (.int (1 - 2 * g)) := rfl
    have hg : 1 - 2 * g = 1 ∨ 1 - 2 * g = -1 := by omega
    have lg : (1 - 2 * g).natAbs.log2 = 0 := by rcases hg with e | e <;> rw [e] <;> decide +kernel
    have p30 : dPow (.int 10) (.int 30) = some (.int (10 ^ 30)) := rfl
    have p15 : dPow (.int 10) (.int 15) = some (.int (10 ^ 15)) := rfl
    by_cases h3 : r = 2
    · obtain ⟨v, c3, e3, v1, v2, b3⟩ := take (many := 3) b2 (by omega) (by decide) (by decide +kernel)
      have he : dEq (.int r) (.int 2) = some (.bl true) := by simp [dEq, dOr, dEqS, scV, scal, h3]
      have hs2 : dSub (.int (10 ^ 30)) (.int v) = some (.int (10 ^ 30 - v)) := rfl
      have lv : (10 ^ 30 - v).natAbs.log2 < 200 := log2_lt (by omega) (by decide) (by omega)
      have hm2 : dMulI (.int (1 - 2 * g)) (.int (10 ^ 30 - v)) = some (.int ((1 - 2 * g) * (10 ^ 30 - v))) := by
        have : mulOk (1 - 2 * g) (10 ^ 30 - v) := by unfold mulOk; rw [lg]; omega
        simp only [dMulI, this, if_true]
      refine ⟨(1 - 2 * g) * (10 ^ 30 - v), c3, ?_, by rcases hg with e | e <;> rw [e] <;> omega, by rcases hg with e | e <;> rw [e] <;> omega, b3.mono (by omega)⟩
      simp only [Int.reducePow] at *
      simp [m_law_number, b_law_number, mkF, up, sSeq, sIf, sE, mT, m2, mIxN, mNm, itemOf, M.bind, M.ret, M.opt, sSet, sOpt, setD, mB, mCons, mNil, mVar, sRetV, sRet, outs, outOf, mCall, rCons, rVar, rNil, mArV, callM, arsSV, arSV, slotsOf, putB, setCell, rvD, mBN, nmD, fz, e1, e2, e3, hlt, hm, hs, he, hs2, hm2, p30]
    · obtain ⟨v, c3, e3, v1, v2, b3⟩ := take (many := 10 ^ 15) b2 (by omega) (by decide) (by decide +kernel)
      obtain ⟨u, c4, e4, u1, u2, b4⟩ := take (many := 10 ^ 15) b3 (by omega) (by decide) (by decide +kernel)
      have he : dEq (.int r) (.int 2) = some (.bl false) := by simp [dEq, dOr, dEqS, scV, scal, h3]
      have lv : v.natAbs.log2 < 200 := log2_lt (by omega) (by decide) (by omega)
      have l15 : (10 ^ 15 : Int).natAbs.log2 = 49 := by decide +kernel
      have hm3 : dMulI (.int v) (.int (10 ^ 15)) = some (.int (v * 10 ^ 15)) := by
        have : mulOk v (10 ^ 15) := by unfold mulOk; rw [l15]; omega
        simp only [dMulI, this, if_true]
      have ha : dAdd (.int (v * 10 ^ 15)) (.int u) = some (.int (v * 10 ^ 15 + u)) := rfl
      have lw : (v * 10 ^ 15 + u).natAbs.log2 < 200 := log2_lt (by omega) (by decide) (by omega)
      have hm2 : dMulI (.int (1 - 2 * g)) (.int (v * 10 ^ 15 + u)) = some (.int ((1 - 2 * g) * (v * 10 ^ 15 + u))) := by
        have : mulOk (1 - 2 * g) (v * 10 ^ 15 + u) := by unfold mulOk; rw [lg]; omega
        simp only [dMulI, this, if_true]
      refine ⟨(1 - 2 * g) * (v * 10 ^ 15 + u), c4, ?_, by rcases hg with e | e <;> rw [e] <;> omega, by rcases hg with e | e <;> rw [e] <;> omega, b4.mono (by omega)⟩
      simp only [Int.reducePow] at *
      simp [m_law_number, b_law_number, mkF, up, sSeq, sIf, sE, mT, m2, mIxN, mNm, itemOf, M.bind, M.ret, M.opt, sSet, sOpt, setD, mB, mCons, mNil, mVar, sRetV, sRet, outs, outOf, mCall, rCons, rVar, rNil, mArV, callM, arsSV, arSV, slotsOf, putB, setCell, rvD, mBN, nmD, fz, e1, e2, e3, e4, hlt, hm, hs, he, hm3, ha, hm2, p15]
/-- nothing, or data -/
def Dt (o : Option SV) : Prop := o = none ∨ ∃ d, o = some (.d d)
theorem seq_nx {a b : MS} {ev ev' : Ev} (h : a ev = some (.nx ev')) : sSeq a b ev = b ev' := by simp [sSeq, h]
theorem seq_rt {a b : MS} {ev ev' : Ev} {r : RV} (h : a ev = some (.rt r ev')) : sSeq a b ev = some (.rt r ev') := by simp [sSeq, h]
theorem seq_er {a b : MS} {ev ev' : Ev} {r : Err} (h : a ev = some (.er r ev')) : sSeq a b ev = some (.er r ev') := by simp [sSeq, h]
theorem mkF_er {n N : Nat} {body : MS} {args : List SV} {r : Err} {ev : Ev} (h : args.length = n) (hb : body (up args ++ List.replicate (N - n) none) = some (.er r ev)) : mkF n N body args = some (.raise r (outs args ev)) := by
  simp only [mkF, h, if_true, hb]
theorem mkF_rt {n N : Nat} {body : MS} {args : List SV} {r : RV} {ev : Ev} (h : args.length = n) (hb : body (up args ++ List.replicate (N - n) none) = some (.rt r ev)) : mkF n N body args = some (.ret r (outs args ev)) := by
  simp only [mkF, h, if_true, hb]
/-- nothing, or a list of the frame's own -/
def Ow (o : Option SV) : Prop := o = none ∨ ∃ c, o = some (.own c)
theorem z0 : (0 : Nat) ≤ sizeLine := by decide
theorem z1 : (1 : Nat) ≤ sizeLine := by decide
theorem z2 : (2 : Nat) ≤ sizeLine := by decide
theorem dEq_int {i j : Int} : dEq (.int i) (.int j) = some (.bl (decide (i = j))) := by simp [dEq, dOr, dEqS, scV, scal]
theorem bag {ns : List Int} {at_ : Nat} (h : at_ < 12) : ∃ a b : Int, m_law_bag [.d (.lst (ns.map D.int)), .d (.int (at_ : Int))] = some (.ret (.fr (.lst [.int a, .int b, .int 0])) [.d (.lst (ns.map D.int)), .d (.int (at_ : Int))]) ∧ 0 ≤ a ∧ 0 ≤ b ∧ b ≤ 2 ^ 63 + 2 ^ 62 := by
  have hlen : gLen [.lst (ns.map D.int)] = some (.int (ns.length : Int)) := by
    show (some ((ns.map D.int).length) : Option Nat).map (fun (n : Nat) => D.int (n : Int)) = _
    simp
  have hsc : isSc (.int (ns.length : Int)) = true := rfl
  have p18 : dPow (.int 10) (.int 18) = some (.int 1000000000000000000) := rfl
  have z3 : (3 : Nat) ≤ sizeLine := by decide
  have core : ∀ cell : Int, ∃ a b : Int, 0 ≤ a ∧ 0 ≤ b ∧ b ≤ 2 ^ 63 + 2 ^ 62 ∧
      (dGe (.int (if cell < 0 then -cell else cell)) (.int 1000000000000000000) = some (.bl true) ∧ a = (if cell < 0 then -cell else cell) ∨ dGe (.int (if cell < 0 then -cell else cell)) (.int 1000000000000000000) = some (.bl false) ∧ a = 0) ∧
      dMod (.int cell) (.int 2305843009213693951) = some (.int (cell % 2305843009213693951)) ∧ dMulI (.int (cell % 2305843009213693951)) (.int 5) = some (.int (cell % 2305843009213693951 * 5)) ∧ dMulI (.int 104729) (.int (at_ : Int)) = some (.int (104729 * (at_ : Int))) ∧
      b = cell % 2305843009213693951 * 5 + 104729 * (at_ : Int) + 6151 := fun cell => by
    have m1 : 0 ≤ cell % 2305843009213693951 := Int.emod_nonneg _ (by decide)
    have m2 : cell % 2305843009213693951 < 2305843009213693951 := Int.emod_lt_of_pos _ (by decide)
    have l1 := log2_lt (i := cell % 2305843009213693951) (n := 64) m1 (by decide) (by omega)
    have l5 : (5 : Int).natAbs.log2 = 2 := by decide +kernel
    have l9 : (104729 : Int).natAbs.log2 = 16 := by decide +kernel
    have la := log2_lt (i := (at_ : Int)) (n := 10) (by omega) (by decide) (by omega)
    have k1 : mulOk (cell % 2305843009213693951) 5 := by unfold mulOk; omega
    have k2 : mulOk 104729 (at_ : Int) := by unfold mulOk; omega
    by_cases hg : 1000000000000000000 ≤ (if cell < 0 then -cell else cell)
    · exact ⟨_, _, by split <;> omega, by omega, by omega, .inl ⟨by simp only [dGe, ge_iff_le, hg, decide_true], rfl⟩, by simp [dMod], by simp only [dMulI, k1, if_true], by simp only [dMulI, k2, if_true], rfl⟩
    · exact ⟨0, _, by omega, by omega, by omega, .inr ⟨by simp only [dGe, ge_iff_le, hg, decide_false], rfl⟩, by simp [dMod], by simp only [dMulI, k1, if_true], by simp only [dMulI, k2, if_true], rfl⟩
  by_cases hat : at_ < ns.length
  · have c1 : dLt (.int (at_ : Int)) (.int (ns.length : Int)) = some (.bl true) := by simp [dLt, hat]
    have ix : dIx (.lst (ns.map D.int)) (.int (at_ : Int)) = some (.int ns[at_]) := dIx_lst (by rw [List.getElem?_map, List.getElem?_eq_getElem hat]; rfl)
    obtain ⟨a, b, h1, h2, h3, h4, h5, h6, h7, h8⟩ := core ns[at_]
    refine ⟨a, b, ?_, h1, h2, h3⟩
    rcases h4 with ⟨h4, ha⟩ | ⟨h4, ha⟩ <;> simp [m_law_bag, b_law_bag, mkF, up, sSeq, sIf, sE, mT, m2, mIxN, mNm, itemOf, M.bind, M.ret, M.opt, sSet, sOpt, setD, mB, mCons, mNil, mVar, sRetV, sRet, outs, outOf, mCall, rCons, rVar, rNil, mArV, callM, arsSV, arSV, slotsOf, putB, setCell, rvD, mBN, nmD, fz, mIf, gAbsB, gInt1s, sRetF, mLst, z3, hlen, hsc, p18, c1, ix, h4, ha, h5, h6, h7, h8, dAdd, dOr, dAddI, dI]
  · have c1 : dLt (.int (at_ : Int)) (.int (ns.length : Int)) = some (.bl false) := by simp [dLt]; omega
    obtain ⟨_, _, _, _, _, _, _, _, h7, _⟩ := core 0
    have g1 : dGe (.int 0) (.int 1000000000000000000) = some (.bl false) := rfl
    have g2 : dMod (.int 0) (.int 2305843009213693951) = some (.int 0) := rfl
    have g3 : dMulI (.int 0) (.int 5) = some (.int 0) := rfl
    refine ⟨0, 104729 * (at_ : Int) + 6151, ?_, by omega, by omega, by omega⟩
    simp [m_law_bag, b_law_bag, mkF, up, sSeq, sIf, sE, mT, m2, mIxN, mNm, itemOf, M.bind, M.ret, M.opt, sSet, sOpt, setD, mB, mCons, mNil, mVar, sRetV, sRet, outs, outOf, mCall, rCons, rVar, rNil, mArV, callM, arsSV, arSV, slotsOf, putB, setCell, rvD, mBN, nmD, fz, mIf, gAbsB, gInt1s, sRetF, mLst, z3, hlen, hsc, p18, c1, g1, g2, g3, h7, dAdd, dOr, dAddI, dI]
mutual
theorem okS_up : ∀ (n : Nat) (d : D), okS n d = true → okS (n + 1) d = true
  | 0, d, h => by unfold okS at h; cases h
  | n + 1, .non, _ => rfl
  | n + 1, .bl _, _ => rfl
  | n + 1, .int _, _ => rfl
  | n + 1, .str _, _ => rfl
  | n + 1, .tup xs, h => by
    unfold okS at h ⊢
    obtain ⟨h1, h2⟩ := and_tt h
    rw [h1, oksS_up n xs h2]
    rfl
  | n + 1, .lst xs, h => by
    unfold okS at h ⊢
    obtain ⟨h1, h2⟩ := and_tt h
    rw [h1, oksS_up n xs h2]
    rfl
  | n + 1, .ty _, h => by unfold okS at h; cases h
  | n + 1, .cls _, h => by unfold okS at h; cases h
  | n + 1, .ins _ _ _, h => by unfold okS at h; cases h
theorem oksS_up : ∀ (n : Nat) (xs : List D), oksS n xs = true → oksS (n + 1) xs = true
  | n, [], _ => by unfold oksS; rfl
  | n, x :: xs, h => by
    unfold oksS at h ⊢
    obtain ⟨h1, h2⟩ := and_tt h
    rw [okS_up n x h1, oksS_up n xs h2]
    rfl
end
end Q
set_option Elab.async false
set_option linter.all false
set_option maxRecDepth 100000
set_option maxHeartbeats 1000000
namespace Q
open PySem
open PySem.Spec
open L2
open FL
/-- a number of a moderate size -/
def Sm (i : Int) : Prop := -(10 ^ 32) < i ∧ i < 10 ^ 32
theorem Sm.log {i : Int} (h : Sm i) : i.natAbs.log2 < 1920 := by
  obtain ⟨h1, h2⟩ := h
  by_cases h0 : 0 ≤ i
  · exact Nat.lt_trans (log2_lt (n := 200) h0 (by decide) (by omega)) (by decide)
  · have := log2_lt (i := -i) (n := 200) (by omega) (by decide) (by omega)
    rw [Int.natAbs_neg] at this
    omega
theorem dIn_i2 {r a b : Int} : dIn (.int r) (.tup [.int a, .int b]) = some (.bl (decide (r = a) || decide (r = b))) := by
  have e : ∀ x y : Int, (x == y) = decide (y = x) := fun x y => by
    rw [← Bool.beq_eq_decide_eq (α := Int)]
    exact Bool.beq_comm
  simp [dIn, dIn0, scV, scVs, inV, eqV, e]
theorem p31 : dPow (.int 10) (.int 31) = some (.int 10000000000000000000000000000000) := rfl
theorem p30 : dPow (.int 10) (.int 30) = some (.int 1000000000000000000000000000000) := rfl
theorem stretch {n : Nat} {c : Cell} (h : Bc n c) (hn : n < 700000) : ∃ b e c', m_law_stretch [.bor c] = some (.ret (.d (.tup [.int b, .int e])) [.bor c']) ∧ Sm b ∧ Sm e ∧ Bc (n + 9) c' := by
  obtain ⟨r, c1, e1, r1, r2, b1⟩ := take (many := 7) h (by omega) (by decide) (by decide +kernel)
  have q1 : b_law_stretch_1 [some (.bor c), none, none, none] = some (.nx [some (.bor c1), some (.d (.int r)), none, none]) := by simp [b_law_stretch_1, mkF, up, sSeq, sIf, sE, mT, m2, mIxN, mNm, itemOf, M.bind, M.ret, M.opt, sSet, sOpt, setD, mB, mCons, mNil, mVar, sRetV, sRet, outs, outOf, mCall, rCons, rVar, rNil, mArV, callM, arsSV, arSV, slotsOf, putB, setCell, rvD, mBN, nmD, fz, e1]
  obtain ⟨b, c2, q2, hb, b2⟩ : ∃ b c2, b_law_stretch_2 [some (.bor c1), some (.d (.int r)), none, none] = some (.nx [some (.bor c2), some (.d (.int r)), some (.d (.int b)), none]) ∧ (-(10 ^ 31) ≤ b ∧ b ≤ 10 ^ 31) ∧ Bc (n + 5) c2 := by
    by_cases hr : r < 4
    · obtain ⟨v, c2, e2, v1, v2, b2⟩ := take (many := 8) b1 (by omega) (by decide) (by decide +kernel)
      exact ⟨v, c2, by simp [b_law_stretch_2, mkF, up, sSeq, sIf, sE, mT, m2, mIxN, mNm, itemOf, M.bind, M.ret, M.opt, sSet, sOpt, setD, mB, mCons, mNil, mVar, sRetV, sRet, outs, outOf, mCall, rCons, rVar, rNil, mArV, callM, arsSV, arSV, slotsOf, putB, setCell, rvD, mBN, nmD, fz, mIf, dLt_i, hr, e2], ⟨by omega, by omega⟩, b2.mono (by omega)⟩
    · obtain ⟨v, c2, e2, v1, v2, b2⟩ := number b1 (by omega)
      exact ⟨v, c2, by simp [b_law_stretch_2, mkF, up, sSeq, sIf, sE, mT, m2, mIxN, mNm, itemOf, M.bind, M.ret, M.opt, sSet, sOpt, setD, mB, mCons, mNil, mVar, sRetV, sRet, outs, outOf, mCall, rCons, rVar, rNil, mArV, callM, arsSV, arSV, slotsOf, putB, setCell, rvD, mBN, nmD, fz, mIf, dLt_i, hr, e2], ⟨by omega, by omega⟩, b2⟩
  obtain ⟨e, c3, q3, he, b3⟩ : ∃ e c3, b_law_stretch_3 [some (.bor c2), some (.d (.int r)), some (.d (.int b)), none] = some (.nx [some (.bor c3), some (.d (.int r)), some (.d (.int b)), some (.d (.int e))]) ∧ (-(10 ^ 31) ≤ e ∧ e ≤ 10 ^ 31 + 5) ∧ Bc (n + 9) c3 := by
    obtain ⟨hb1, hb2⟩ := hb
    by_cases hr : r < 4
    · obtain ⟨v, c3, e2, v1, v2, b3⟩ := take (many := 5) b2 (by omega) (by decide) (by decide +kernel)
      exact ⟨b + v, c3, by simp [b_law_stretch_3, mkF, up, sSeq, sIf, sE, mT, m2, mIxN, mNm, itemOf, M.bind, M.ret, M.opt, sSet, sOpt, setD, mB, mCons, mNil, mVar, sRetV, sRet, outs, outOf, mCall, rCons, rVar, rNil, mArV, callM, arsSV, arSV, slotsOf, putB, setCell, rvD, mBN, nmD, fz, mIf, dLt_i, dAdd_i, hr, e2], ⟨by omega, by omega⟩, b3.mono (by omega)⟩
    · obtain ⟨v, c3, e2, v1, v2, b3⟩ := number b2 (by omega)
      exact ⟨v, c3, by simp [b_law_stretch_3, mkF, up, sSeq, sIf, sE, mT, m2, mIxN, mNm, itemOf, M.bind, M.ret, M.opt, sSet, sOpt, setD, mB, mCons, mNil, mVar, sRetV, sRet, outs, outOf, mCall, rCons, rVar, rNil, mArV, callM, arsSV, arSV, slotsOf, putB, setCell, rvD, mBN, nmD, fz, mIf, dLt_i, hr, e2], ⟨by omega, by omega⟩, b3⟩
  obtain ⟨b', q4, hb'⟩ : ∃ b', b_law_stretch_4 [some (.bor c3), some (.d (.int r)), some (.d (.int b)), some (.d (.int e))] = some (.nx [some (.bor c3), some (.d (.int r)), some (.d (.int b')), some (.d (.int e))]) ∧ Sm b' := by
    by_cases hr : r = 2 ∨ r = 6
    · exact ⟨-10000000000000000000000000000000, by rcases hr with rfl | rfl <;> simp [b_law_stretch_4, mkF, up, sSeq, sIf, sE, mT, m2, mIxN, mNm, itemOf, M.bind, M.ret, M.opt, sSet, sOpt, setD, mB, mCons, mNil, mVar, sRetV, sRet, outs, outOf, mCall, rCons, rVar, rNil, mArV, callM, arsSV, arSV, slotsOf, putB, setCell, rvD, mBN, nmD, fz, mTup, m1, dIn_i2, p31, dNeg_i, z2], ⟨by decide, by decide⟩⟩
    · obtain ⟨h1, h2⟩ := not_or.mp hr
      exact ⟨b, by simp [b_law_stretch_4, mkF, up, sSeq, sIf, sE, mT, m2, mIxN, mNm, itemOf, M.bind, M.ret, M.opt, sSet, sOpt, setD, mB, mCons, mNil, mVar, sRetV, sRet, outs, outOf, mCall, rCons, rVar, rNil, mArV, callM, arsSV, arSV, slotsOf, putB, setCell, rvD, mBN, nmD, fz, mTup, m1, dIn_i2, z2, h1, h2], ⟨by omega, by omega⟩⟩
  obtain ⟨e', q5, he'⟩ : ∃ e', b_law_stretch_5 [some (.bor c3), some (.d (.int r)), some (.d (.int b')), some (.d (.int e))] = some (.nx [some (.bor c3), some (.d (.int r)), some (.d (.int b')), some (.d (.int e'))]) ∧ Sm e' := by
    by_cases hr : r = 3 ∨ r = 6
    · exact ⟨10000000000000000000000000000000, by rcases hr with rfl | rfl <;> simp [b_law_stretch_5, mkF, up, sSeq, sIf, sE, mT, m2, mIxN, mNm, itemOf, M.bind, M.ret, M.opt, sSet, sOpt, setD, mB, mCons, mNil, mVar, sRetV, sRet, outs, outOf, mCall, rCons, rVar, rNil, mArV, callM, arsSV, arSV, slotsOf, putB, setCell, rvD, mBN, nmD, fz, mTup, m1, dIn_i2, p31, dNeg_i, z2], ⟨by decide, by decide⟩⟩
    · obtain ⟨h1, h2⟩ := not_or.mp hr
      exact ⟨e, by simp [b_law_stretch_5, mkF, up, sSeq, sIf, sE, mT, m2, mIxN, mNm, itemOf, M.bind, M.ret, M.opt, sSet, sOpt, setD, mB, mCons, mNil, mVar, sRetV, sRet, outs, outOf, mCall, rCons, rVar, rNil, mArV, callM, arsSV, arSV, slotsOf, putB, setCell, rvD, mBN, nmD, fz, mTup, m1, dIn_i2, z2, h1, h2], ⟨by omega, by omega⟩⟩
  have fin : ∃ x y, b_law_stretch_6 [some (.bor c3), some (.d (.int r)), some (.d (.int b')), some (.d (.int e'))] = some (.rt (.d (.tup [.int x, .int y])) [some (.bor c3), some (.d (.int r)), some (.d (.int b')), some (.d (.int e'))]) ∧ Sm x ∧ Sm y := by
    refine ⟨if e' < b' then e' else b', if e' > b' then e' else b', by simp [b_law_stretch_6, mkF, up, sSeq, sIf, sE, mT, m2, mIxN, mNm, itemOf, M.bind, M.ret, M.opt, sSet, sOpt, setD, mB, mCons, mNil, mVar, sRetV, sRet, outs, outOf, mCall, rCons, rVar, rNil, mArV, callM, arsSV, arSV, slotsOf, putB, setCell, rvD, mBN, nmD, fz, mTup, gMin2, gMax2, gInt1s, z2], ?_, ?_⟩ <;> (split <;> assumption)
  obtain ⟨x, y, q6, hx, hy⟩ := fin
  refine ⟨x, y, c3, ?_, hx, hy, b3⟩
  refine mkF_rt (n := 1) (N := 4) (body := b_law_stretch) (args := [.bor c]) (r := .d (.tup [.int x, .int y])) (ev := [some (.bor c3), some (.d (.int r)), some (.d (.int b')), some (.d (.int e'))]) rfl ?_
  show b_law_stretch [some (.bor c), none, none, none] = _
  unfold b_law_stretch
  rw [seq_nx q1, seq_nx q2, seq_nx q3, seq_nx q4, seq_nx q5, q6]
theorem days {n : Nat} {c : Cell} (h : Bc n c) (hn : n < 800000) : ∃ len sh c', m_law_days [.bor c] = some (.ret (.d (.tup [.int len, .int sh])) [.bor c']) ∧ 1 ≤ len ∧ len ≤ 1000000 ∧ 0 ≤ sh ∧ sh < len ∧ Bc (n + 6) c' := by
  have p6 : dPow (.int 10) (.int 6) = some (.int 1000000) := rfl
  obtain ⟨v1, c1, e1, a1, a2, b1⟩ := take (many := 1000000) h (by omega) (by decide) (by decide +kernel)
  have d1 : dAdd (.int 1) (.int v1) = some (.int (1 + v1)) := rfl
  obtain ⟨x, c2, e2, hx, b2⟩ := of_ (xs := [.int 1000000, .int 999983, .int (1 + v1)]) b1 (by omega) (by simp) (by simp)
  obtain ⟨lg, rfl, hl1, hl2⟩ : ∃ k, x = .int k ∧ 1 ≤ k ∧ k ≤ 1000000 := by
    simp only [List.mem_cons, List.not_mem_nil, or_false] at hx
    rcases hx with rfl | rfl | rfl
    · exact ⟨_, rfl, by omega, by omega⟩
    · exact ⟨_, rfl, by omega, by omega⟩
    · exact ⟨_, rfl, by omega, by omega⟩
  obtain ⟨v3, c3, e3, a3, a4, b3⟩ := take (many := 1440) b2 (by omega) (by decide) (by decide +kernel)
  have d3 : dAdd (.int 1) (.int v3) = some (.int (1 + v3)) := rfl
  obtain ⟨y, c4, e4, hy, b4⟩ := of_ (xs := [.int 1, .int 2, .int 3, .int 7, .int 24, .int 60, .int 90, .int 360, .int 1440, .int 1440, .int (1 + v3), .int lg]) b3 (by omega) (by simp) (by simp)
  obtain ⟨len, rfl, hk1, hk2⟩ : ∃ k, y = .int k ∧ 1 ≤ k ∧ k ≤ 1000000 := by
    simp only [List.mem_cons, List.not_mem_nil, or_false] at hy
    rcases hy with rfl | rfl | rfl | rfl | rfl | rfl | rfl | rfl | rfl | rfl | rfl | rfl <;> exact ⟨_, rfl, by omega, by omega⟩
  obtain ⟨v5, c5, e5, a5, a6, b5⟩ := take (many := len) b4 (by omega) (by omega) (Nat.lt_trans (log2_lt (i := len) (n := 30) (by omega) (by decide) (by omega)) (by decide))
  have d5 : dSub (.int len) (.int 1) = some (.int (len - 1)) := rfl
  obtain ⟨z, c6, e6, hz, b6⟩ := of_ (xs := [.int 0, .int 0, .int (len - 1), .int v5]) b5 (by omega) (by simp) (by simp)
  obtain ⟨sh, rfl, hs1, hs2⟩ : ∃ k, z = .int k ∧ 0 ≤ k ∧ k < len := by
    simp only [List.mem_cons, List.not_mem_nil, or_false] at hz
    rcases hz with rfl | rfl | rfl | rfl <;> exact ⟨_, rfl, by omega, by omega⟩
  refine ⟨len, sh, c6, ?_, hk1, hk2, hs1, hs2, b6⟩
  have z3 : (3 : Nat) ≤ sizeLine := by decide
  have z12 : (12 : Nat) ≤ sizeLine := by decide
  have z4 : (4 : Nat) ≤ sizeLine := by decide
  have z2 : (2 : Nat) ≤ sizeLine := by decide
  simp [m_law_days, b_law_days, mkF, up, sSeq, sIf, sE, mT, m2, mIxN, mNm, itemOf, M.bind, M.ret, M.opt, sSet, sOpt, setD, mB, mCons, mNil, mVar, sRetV, sRet, outs, outOf, mCall, rCons, rVar, rNil, mArV, callM, arsSV, arSV, slotsOf, putB, setCell, rvD, mBN, nmD, fz, mFz, mLst, mTup, p6, e1, d1, e2, e3, d3, e4, e5, d5, e6, z3, z12, z4, z2]
def isI : D → Bool
  | .int _ => true
  | _ => false
def plainD : D → Bool
  | .non => true
  | .bl _ => true
  | .int _ => true
  | .str _ => true
  | .tup _ => true
  | .lst _ => true
  | _ => false
theorem is_integer {d : D} (h : plainD d = true) : m_is_integer [.d d] = some (.ret (.d (.bl (isI d))) [.d d]) := by
  have key : ∀ (t : String) (q : Bool), tyN d = some (.b t) → okIns ins d = true → lkT kt (.b t) (.b "int") = some q → ∀ q2, lkT kt (.b t) (.b "bool") = some q2 → (q && !q2) = isI d → m_is_integer [.d d] = some (.ret (.d (.bl (isI d))) [.d d]) := fun t q h1 h2 h3 q2 h4 h5 => by
    have e1 : gIsi kt ins [d, .ty "int"] = some (.bl q) := isi_eq h1 h2 h3
    have e2 : gIsi kt ins [d, .ty "bool"] = some (.bl q2) := isi_eq h1 h2 h4
    rw [← h5]
    cases q <;> simp [m_is_integer, b_is_integer, mkF, up, sSeq, sIf, sE, mT, m2, mIxN, mNm, itemOf, M.bind, M.ret, M.opt, sSet, sOpt, setD, mB, mCons, mNil, mVar, sRetV, sRet, outs, outOf, mCall, rCons, rVar, rNil, mArV, callM, arsSV, arSV, slotsOf, putB, setCell, rvD, mBN, nmD, fz, mAnd, mNot, e1, e2]
  cases d with
  | non => exact key "NoneType" false rfl rfl (by decide +kernel) false (by decide +kernel) rfl
  | bl b => exact key "bool" true rfl rfl (by decide +kernel) true (by decide +kernel) rfl
  | int i => exact key "int" true rfl rfl (by decide +kernel) false (by decide +kernel) rfl
  | str y => exact key "str" false rfl rfl (by decide +kernel) false (by decide +kernel) rfl
  | tup xs => exact key "tuple" false rfl rfl (by decide +kernel) false (by decide +kernel) rfl
  | lst xs => exact key "list" false rfl rfl (by decide +kernel) false (by decide +kernel) rfl
  | _ => cases h
/-- a Days of this length, this offset -/
def daysD (len sh : Int) : D := .ins "Days" ["length", "offset"] [.int len, .int sh]
theorem init_good {len sh : Int} (h1 : 1 ≤ len) (h2 : len ≤ 1000000) (h3 : 0 ≤ sh) (h4 : sh < len) :
    m_Days___init [.bor (.ins "Days" [] []), .d (.int len), .d (.int sh)] = some (.ret (.d .non) [.bor (.ins "Days" ["length", "offset"] [.int len, .int sh]), .d (.int len), .d (.int sh)]) := by
  have ea := is_integer (d := .int len) rfl
  have eb := is_integer (d := .int sh) rfl
  have c1 : dLe (.int 1) (.int len) = some (.bl true) := by simp [dLe, h1]
  have c2 : dLe (.int len) (.int 1000000) = some (.bl true) := by simp [dLe, h2]
  have c3 : dLe (.int 0) (.int sh) = some (.bl true) := by simp [dLe, h3]
  have c4 : dLt (.int sh) (.int len) = some (.bl true) := by simp [dLt, h4]
  simp [m_Days___init, b_Days___init, b_Days___init_1, b_Days___init_2, b_Days___init_3, b_Days___init_4, mkF, up, sSeq, sIf, sE, mT, m2, mIxN, mNm, itemOf, M.bind, M.ret, M.opt, sSet, sOpt, setD, mB, mCons, mNil, mVar, sRetV, sRet, outs, outOf, mCall, rCons, rVar, rNil, mArV, callM, arsSV, arSV, slotsOf, putB, setCell, rvD, mBN, nmD, fz, mTOr, mTNot, mTru, dTru, mChain, isI, ea, eb, c1, c2, c3, c4, sPut, FL.putAt, FL.putK, FL.putD]
theorem fl_len {len sh : Int} : fld "length" ["length", "offset"] [.int len, .int sh] = some (.int len) := by simp [fld]
theorem fl_off {len sh : Int} : fld "offset" ["length", "offset"] [.int len, .int sh] = some (.int sh) := by simp [fld]
theorem abs_log {i : Int} {n : Nat} (hn : n ≠ 0) (h1 : -(2 ^ n) < i) (h2 : i < 2 ^ n) : i.natAbs.log2 < n := by
  by_cases h0 : 0 ≤ i
  · exact log2_lt h0 hn h2
  · have := log2_lt (i := -i) (n := n) (by omega) hn (by omega)
    rw [Int.natAbs_neg] at this
    exact this
def near (i : Int) : Bool := decide (-1000000000000000000000000000000 ≤ i) && decide (i ≤ 1000000000000000000000000000000)
theorem ng30 : dNeg (.int 1000000000000000000000000000000) = some (.int (-1000000000000000000000000000000)) := rfl
theorem is_near {i : Int} : m_is_near [.d (.int i)] = some (.ret (.d (.bl (near i))) [.d (.int i)]) := by
  by_cases h1 : -1000000000000000000000000000000 ≤ i
  · have c1 : dLe (.int (-1000000000000000000000000000000)) (.int i) = some (.bl true) := by simp [dLe, h1]
    simp [m_is_near, b_is_near, mkF, up, sSeq, sIf, sE, mT, m2, mIxN, mNm, itemOf, M.bind, M.ret, M.opt, sSet, sOpt, setD, mB, mCons, mNil, mVar, sRetV, sRet, outs, outOf, mCall, rCons, rVar, rNil, mArV, callM, arsSV, arSV, slotsOf, putB, setCell, rvD, mBN, nmD, fz, m1, mChain, ng30, c1, near, h1, dLe]
  · have c1 : dLe (.int (-1000000000000000000000000000000)) (.int i) = some (.bl false) := by simp [dLe]; omega
    simp [m_is_near, b_is_near, mkF, up, sSeq, sIf, sE, mT, m2, mIxN, mNm, itemOf, M.bind, M.ret, M.opt, sSet, sOpt, setD, mB, mCons, mNil, mVar, sRetV, sRet, outs, outOf, mCall, rCons, rVar, rNil, mArV, callM, arsSV, arSV, slotsOf, putB, setCell, rvD, mBN, nmD, fz, m1, mChain, ng30, c1, near, h1]
theorem law_near {i : Int} : m_law_is_near [.d (.int i)] = some (.ret (.d (.bl (near i))) [.d (.int i)]) := by
  have e3 : gIsi kt ins [.int i, .ty "int"] = some (.bl true) := isi_eq (t := "int") rfl rfl (by decide +kernel)
  have e4 : gIsi kt ins [.int i, .ty "bool"] = some (.bl false) := isi_eq (t := "int") rfl rfl (by decide +kernel)
  have p30 : dPow (.int 10) (.int 30) = some (.int 1000000000000000000000000000000) := rfl
  by_cases h1 : -1000000000000000000000000000000 ≤ i
  · have c1 : dLe (.int (-1000000000000000000000000000000)) (.int i) = some (.bl true) := by simp [dLe, h1]
    simp [m_law_is_near, b_law_is_near, mkF, up, sSeq, sIf, sE, mT, m2, mIxN, mNm, itemOf, M.bind, M.ret, M.opt, sSet, sOpt, setD, mB, mCons, mNil, mVar, sRetV, sRet, outs, outOf, mCall, rCons, rVar, rNil, mArV, callM, arsSV, arSV, slotsOf, putB, setCell, rvD, mBN, nmD, fz, m1, mChain, mAnd, mNot, e3, e4, p30, ng30, c1, near, h1, dLe]
  · have c1 : dLe (.int (-1000000000000000000000000000000)) (.int i) = some (.bl false) := by simp [dLe]; omega
    simp [m_law_is_near, b_law_is_near, mkF, up, sSeq, sIf, sE, mT, m2, mIxN, mNm, itemOf, M.bind, M.ret, M.opt, sSet, sOpt, setD, mB, mCons, mNil, mVar, sRetV, sRet, outs, outOf, mCall, rCons, rVar, rNil, mArV, callM, arsSV, arSV, slotsOf, putB, setCell, rvD, mBN, nmD, fz, m1, mChain, mAnd, mNot, e3, e4, p30, ng30, c1, near, h1]
theorem edge_ok {i : Int} (h : near i = true) : m_checked_edge [.d (.int i)] = some (.ret (.d (.int i)) [.d (.int i)]) := by
  have e := is_near (i := i)
  rw [h] at e
  simp [m_checked_edge, b_checked_edge, mkF, up, sSeq, sIf, sE, mT, m2, mIxN, mNm, itemOf, M.bind, M.ret, M.opt, sSet, sOpt, setD, mB, mCons, mNil, mVar, sRetV, sRet, outs, outOf, mCall, rCons, rVar, rNil, mArV, callM, arsSV, arSV, slotsOf, putB, setCell, rvD, mBN, nmD, fz, mTNot, mTru, dTru, e]
theorem edge_bad {i : Int} (h : near i = false) : m_checked_edge [.d (.int i)] = some (.raise ⟨"TooFar", ["edge"], [.int i]⟩ [.d (.int i)]) := by
  have e := is_near (i := i)
  rw [h] at e
  simp [m_checked_edge, b_checked_edge, mkF, up, sSeq, sIf, sE, mT, m2, mIxN, mNm, itemOf, M.bind, M.ret, M.opt, sSet, sOpt, setD, mB, mCons, mNil, mVar, sRetV, sRet, outs, outOf, mCall, rCons, rVar, rNil, mArV, callM, arsSV, arSV, slotsOf, putB, setCell, rvD, mBN, nmD, fz, mTNot, mTru, dTru, sRaise, e]
end Q
set_option Elab.async false
set_option linter.all false
set_option maxRecDepth 100000
set_option maxHeartbeats 1000000
namespace Q
open PySem
open PySem.Spec
open L2
open FL
def edgeI (i : Int) : Bool := (decide (i = -10000000000000000000000000000000) || decide (i = 10000000000000000000000000000000)) || near i
def edgeB : D → Bool
  | .int i => edgeI i
  | _ => false
theorem is_edge {d : D} (h : plainD d = true) : m_is_edge [.d d] = some (.ret (.d (.bl (edgeB d))) [.d d]) := by
  have e := is_integer h
  cases d with
  | int i =>
    have e2 := is_near (i := i)
    obtain ⟨q, hq⟩ : ∃ q, (decide (i = -10000000000000000000000000000000) || decide (i = 10000000000000000000000000000000)) = q := ⟨_, rfl⟩
    have hin : dIn (.int i) (.tup [.int (-10000000000000000000000000000000), .int 10000000000000000000000000000000]) = some (.bl q) := by rw [dIn_i2, hq]
    have he : edgeB (.int i) = (q || near i) := by rw [← hq]; rfl
    rw [he]
    cases q <;> simp [m_is_edge, b_is_edge, mkF, up, sSeq, sIf, sE, mT, m2, mIxN, mNm, itemOf, M.bind, M.ret, M.opt, sSet, sOpt, setD, mB, mCons, mNil, mVar, sRetV, sRet, outs, outOf, mCall, rCons, rVar, rNil, mArV, callM, arsSV, arSV, slotsOf, putB, setCell, rvD, mBN, nmD, fz, mFz, mLst, mTup, mTru, mTruN, mTNot, mTOr, mTAnd, mIf, mOr, mAnd, mNot, dTru, m1, mSl, mPart, mNoPart, mM0, mM1, mComp, compL, inner, noCell, wipeE, restE, turnC, sFor, forL, turnL, mItems, itemsD, mItemsX, itemsX, mRng, sApp, lstAt, appAt, sAsg, gsTup, gsCons, gsNil, m2N, opAt, isSc, sRetF, sSetF, setO, mCallF, frC, mChain, z2, isI, e, e2, hin]
  | ty n => cases h
  | cls n => cases h
  | ins C ks fs => cases h
  | _ => simp_all [m_is_edge, b_is_edge, mkF, up, sSeq, sIf, sE, mT, m2, mIxN, mNm, itemOf, M.bind, M.ret, M.opt, sSet, sOpt, setD, mB, mCons, mNil, mVar, sRetV, sRet, outs, outOf, mCall, rCons, rVar, rNil, mArV, callM, arsSV, arSV, slotsOf, putB, setCell, rvD, mBN, nmD, fz, mFz, mLst, mTup, mTru, mTruN, mTNot, mTOr, mTAnd, mIf, mOr, mAnd, mNot, dTru, m1, mSl, mPart, mNoPart, mM0, mM1, mComp, compL, inner, noCell, wipeE, restE, turnC, sFor, forL, turnL, mItems, itemsD, mItemsX, itemsX, mRng, sApp, lstAt, appAt, sAsg, gsTup, gsCons, gsNil, m2N, opAt, isSc, sRetF, sSetF, setO, mCallF, frC, mChain, isI, edgeB]
def nearB : D → Bool
  | .int i => near i
  | _ => false
theorem law_nearD {d : D} (h : plainD d = true) : m_law_is_near [.d d] = some (.ret (.d (.bl (nearB d))) [.d d]) := by
  have key : ∀ (t : String) (q : Bool), tyN d = some (.b t) → okIns ins d = true → lkT kt (.b t) (.b "int") = some q → ∀ q2, lkT kt (.b t) (.b "bool") = some q2 → (q && !q2) = false → nearB d = false → m_law_is_near [.d d] = some (.ret (.d (.bl (nearB d))) [.d d]) := fun t q h1 h2 h3 q2 h4 h5 h6 => by
    have e1 : gIsi kt ins [d, .ty "int"] = some (.bl q) := isi_eq h1 h2 h3
    have e2 : gIsi kt ins [d, .ty "bool"] = some (.bl q2) := isi_eq h1 h2 h4
    rw [h6]
    cases q <;> cases q2 <;> simp_all [m_law_is_near, b_law_is_near, mkF, up, sSeq, sIf, sE, mT, m2, mIxN, mNm, itemOf, M.bind, M.ret, M.opt, sSet, sOpt, setD, mB, mCons, mNil, mVar, sRetV, sRet, outs, outOf, mCall, rCons, rVar, rNil, mArV, callM, arsSV, arSV, slotsOf, putB, setCell, rvD, mBN, nmD, fz, mFz, mLst, mTup, mTru, mTruN, mTNot, mTOr, mTAnd, mIf, mOr, mAnd, mNot, dTru, m1, mSl, mPart, mNoPart, mM0, mM1, mComp, compL, inner, noCell, wipeE, restE, turnC, sFor, forL, turnL, mItems, itemsD, mItemsX, itemsX, mRng, sApp, lstAt, appAt, sAsg, gsTup, gsCons, gsNil, m2N, opAt, isSc, sRetF, sSetF, setO, mCallF, frC, mChain]
  cases d with
  | non => exact key "NoneType" false rfl rfl (by decide +kernel) false (by decide +kernel) rfl rfl
  | bl b => exact key "bool" true rfl rfl (by decide +kernel) true (by decide +kernel) rfl rfl
  | int i => exact law_near
  | str y => exact key "str" false rfl rfl (by decide +kernel) false (by decide +kernel) rfl rfl
  | tup xs => exact key "tuple" false rfl rfl (by decide +kernel) false (by decide +kernel) rfl rfl
  | lst xs => exact key "list" false rfl rfl (by decide +kernel) false (by decide +kernel) rfl rfl
  | _ => cases h
theorem abs_eq {i : Int} : ((if i < 0 then -i else i) = 10000000000000000000000000000000) ↔ (i = -10000000000000000000000000000000 ∨ i = 10000000000000000000000000000000) := by
  split <;> omega
theorem law_edge {d : D} (h : plainD d = true) : m_law_is_edge [.d d] = some (.ret (.d (.bl (edgeB d))) [.d d]) := by
  have e := law_nearD h
  have key : ∀ (t : String), tyN d = some (.b t) → okIns ins d = true → lkT kt (.b t) (.b "int") = some false → nearB d = false → edgeB d = false → m_law_is_edge [.d d] = some (.ret (.d (.bl (edgeB d))) [.d d]) := fun t h1 h2 h3 h6 h7 => by
    have e1 : gIsi kt ins [d, .ty "int"] = some (.bl false) := isi_eq h1 h2 h3
    rw [h7]
    rw [h6] at e
    simp [m_law_is_edge, b_law_is_edge, mkF, up, sSeq, sIf, sE, mT, m2, mIxN, mNm, itemOf, M.bind, M.ret, M.opt, sSet, sOpt, setD, mB, mCons, mNil, mVar, sRetV, sRet, outs, outOf, mCall, rCons, rVar, rNil, mArV, callM, arsSV, arSV, slotsOf, putB, setCell, rvD, mBN, nmD, fz, mFz, mLst, mTup, mTru, mTruN, mTNot, mTOr, mTAnd, mIf, mOr, mAnd, mNot, dTru, m1, mSl, mPart, mNoPart, mM0, mM1, mComp, compL, inner, noCell, wipeE, restE, turnC, sFor, forL, turnL, mItems, itemsD, mItemsX, itemsX, mRng, sApp, lstAt, appAt, sAsg, gsTup, gsCons, gsNil, m2N, opAt, isSc, sRetF, sSetF, setO, mCallF, frC, mChain, e, e1]
  cases d with
  | non => exact key "NoneType" rfl rfl (by decide +kernel) rfl rfl
  | bl b =>
    have e1 : gIsi kt ins [.bl b, .ty "int"] = some (.bl true) := isi_eq (t := "bool") rfl rfl (by decide +kernel)
    have e2 : nearB (.bl b) = false := rfl
    rw [e2] at e
    cases b <;> simp [m_law_is_edge, b_law_is_edge, mkF, up, sSeq, sIf, sE, mT, m2, mIxN, mNm, itemOf, M.bind, M.ret, M.opt, sSet, sOpt, setD, mB, mCons, mNil, mVar, sRetV, sRet, outs, outOf, mCall, rCons, rVar, rNil, mArV, callM, arsSV, arSV, slotsOf, putB, setCell, rvD, mBN, nmD, fz, mFz, mLst, mTup, mTru, mTruN, mTNot, mTOr, mTAnd, mIf, mOr, mAnd, mNot, dTru, m1, mSl, mPart, mNoPart, mM0, mM1, mComp, compL, inner, noCell, wipeE, restE, turnC, sFor, forL, turnL, mItems, itemsD, mItemsX, itemsX, mRng, sApp, lstAt, appAt, sAsg, gsTup, gsCons, gsNil, m2N, opAt, isSc, sRetF, sSetF, setO, mCallF, frC, mChain, e, e1, gAbsB, p31, dEq_i, edgeB]
  | int i =>
    have e1 : gIsi kt ins [.int i, .ty "int"] = some (.bl true) := isi_eq (t := "int") rfl rfl (by decide +kernel)
    have e2 : nearB (.int i) = near i := rfl
    rw [e2] at e
    have e3 : edgeB (.int i) = edgeI i := rfl
    have e4 : decide ((if i < 0 then -i else i) = 10000000000000000000000000000000) = (decide (i = -10000000000000000000000000000000) || decide (i = 10000000000000000000000000000000)) := by
      rw [← Bool.decide_or]
      exact decide_eq_decide.mpr abs_eq
    obtain ⟨q, hq⟩ : ∃ q, (decide (i = -10000000000000000000000000000000) || decide (i = 10000000000000000000000000000000)) = q := ⟨_, rfl⟩
    obtain ⟨m, hm⟩ : ∃ m, (if i < 0 then -i else i) = m := ⟨_, rfl⟩
    have e5 : gAbsB [.int i] = some (.int m) := by rw [← hm]; rfl
    have e6 : dEq (.int m) (.int 10000000000000000000000000000000) = some (.bl q) := by rw [dEq_i, ← hm, e4, hq]
    have he : edgeB (.int i) = (q || near i) := by rw [← hq]; rfl
    rw [he]
    cases hn : near i with
    | true =>
      rw [hn] at e
      rw [Bool.or_true]
      simp [m_law_is_edge, b_law_is_edge, mkF, up, sSeq, sIf, sE, mT, m2, mIxN, mNm, itemOf, M.bind, M.ret, M.opt, sSet, sOpt, setD, mB, mCons, mNil, mVar, sRetV, sRet, outs, outOf, mCall, rCons, rVar, rNil, mArV, callM, arsSV, arSV, slotsOf, putB, setCell, rvD, mBN, nmD, fz, mFz, mLst, mTup, mTru, mTruN, mTNot, mTOr, mTAnd, mIf, mOr, mAnd, mNot, dTru, m1, mSl, mPart, mNoPart, mM0, mM1, mComp, compL, inner, noCell, wipeE, restE, turnC, sFor, forL, turnL, mItems, itemsD, mItemsX, itemsX, mRng, sApp, lstAt, appAt, sAsg, gsTup, gsCons, gsNil, m2N, opAt, isSc, sRetF, sSetF, setO, mCallF, frC, mChain, e]
    | false =>
      rw [hn] at e
      rw [Bool.or_false]
      simp [m_law_is_edge, b_law_is_edge, mkF, up, sSeq, sIf, sE, mT, m2, mIxN, mNm, itemOf, M.bind, M.ret, M.opt, sSet, sOpt, setD, mB, mCons, mNil, mVar, sRetV, sRet, outs, outOf, mCall, rCons, rVar, rNil, mArV, callM, arsSV, arSV, slotsOf, putB, setCell, rvD, mBN, nmD, fz, mFz, mLst, mTup, mTru, mTruN, mTNot, mTOr, mTAnd, mIf, mOr, mAnd, mNot, dTru, m1, mSl, mPart, mNoPart, mM0, mM1, mComp, compL, inner, noCell, wipeE, restE, turnC, sFor, forL, turnL, mItems, itemsD, mItemsX, itemsX, mRng, sApp, lstAt, appAt, sAsg, gsTup, gsCons, gsNil, m2N, opAt, isSc, sRetF, sSetF, setO, mCallF, frC, mChain, e, e1, e5, p31, e6]
  | str y => exact key "str" rfl rfl (by decide +kernel) rfl rfl
  | tup xs => exact key "tuple" rfl rfl (by decide +kernel) rfl rfl
  | lst xs => exact key "list" rfl rfl (by decide +kernel) rfl rfl
  | _ => cases h
end Q
set_option Elab.async false
set_option linter.all false
set_option maxRecDepth 100000
set_option maxHeartbeats 1000000
namespace Q
open PySem
open PySem.Spec
open L2
open FL
def strI (x y : Int) : Bool := decide (x ≤ y) && decide (x < 10000000000000000000000000000000) && decide (-10000000000000000000000000000000 < y)
def strB : D → Bool
  | .tup [.int x, .int y] => edgeI x && edgeI y && strI x y
  | _ => false
/-- a thing that both answer about -/
def okT (d : D) : Prop := plainD d = true ∧ ∀ a b, d = .tup [a, b] → plainD a = true ∧ plainD b = true
theorem edgeB_int {a : D} (h : edgeB a = true) : ∃ x, a = .int x ∧ edgeI x = true := by
  cases a with
  | int x => exact ⟨x, rfl, h⟩
  | _ => cases h
theorem ix0 {a b : D} : dIx (.tup [a, b]) (.int 0) = some a := rfl
theorem ix1 {a b : D} : dIx (.tup [a, b]) (.int 1) = some b := rfl
theorem is_stretch {d : D} (h : okT d) : m_is_stretch [.d d] = some (.ret (.d (.bl (strB d))) [.d d]) := by
  obtain ⟨hp, hq⟩ := h
  have key : ∀ (t : String), tyN d = some (.b t) → okIns ins d = true → lkT kt (.b t) (.b "tuple") = some false → strB d = false → m_is_stretch [.d d] = some (.ret (.d (.bl (strB d))) [.d d]) := fun t h1 h2 h3 h4 => by
    have e1 : gIsi kt ins [d, .ty "tuple"] = some (.bl false) := isi_eq h1 h2 h3
    rw [h4]
    simp [m_is_stretch, b_is_stretch, m_is_pair, b_is_pair, mkF, up, sSeq, sIf, sE, mT, m2, mIxN, mNm, itemOf, M.bind, M.ret, M.opt, sSet, sOpt, setD, mB, mCons, mNil, mVar, sRetV, sRet, outs, outOf, mCall, rCons, rVar, rNil, mArV, callM, arsSV, arSV, slotsOf, putB, setCell, rvD, mBN, nmD, fz, mFz, mLst, mTup, mTru, mTruN, mTNot, mTOr, mTAnd, mIf, mOr, mAnd, mNot, dTru, m1, mSl, mPart, mNoPart, mM0, mM1, mComp, compL, inner, noCell, wipeE, restE, turnC, sFor, forL, turnL, mItems, itemsD, mItemsX, itemsX, mRng, sApp, lstAt, appAt, sAsg, gsTup, gsCons, gsNil, m2N, opAt, isSc, sRetF, sSetF, setO, mCallF, frC, mChain, e1]
  cases d with
  | non => exact key "NoneType" rfl rfl (by decide +kernel) rfl
  | bl b => exact key "bool" rfl rfl (by decide +kernel) rfl
  | int i => exact key "int" rfl rfl (by decide +kernel) rfl
  | str y => exact key "str" rfl rfl (by decide +kernel) rfl
  | lst xs => exact key "list" rfl rfl (by decide +kernel) rfl
  | tup xs =>
    have e1 : gIsi kt ins [.tup xs, .ty "tuple"] = some (.bl true) := isi_eq (t := "tuple") rfl rfl (by decide +kernel)
    by_cases hl : xs.length = 2
    · match xs, hl with
      | [a, b], _ =>
        obtain ⟨pa, pb⟩ := hq a b rfl
        have ea := is_edge pa
        have eb := is_edge pb
        have l2 : gLen [.tup [a, b]] = some (.int 2) := rfl
        by_cases ha : edgeB a = true
        · obtain ⟨x, rfl, hx⟩ := edgeB_int ha
          rw [ha] at ea
          by_cases hb : edgeB b = true
          · obtain ⟨y, rfl, hy⟩ := edgeB_int hb
            rw [hb] at eb
            have hs : strB (.tup [.int x, .int y]) = strI x y := by simp [strB, hx, hy]
            rw [hs]
            by_cases h1 : -10000000000000000000000000000000 < y
            · by_cases h2 : x < 10000000000000000000000000000000
              · by_cases h3 : x ≤ y <;> simp [m_is_stretch, b_is_stretch, m_is_pair, b_is_pair, mkF, up, sSeq, sIf, sE, mT, m2, mIxN, mNm, itemOf, M.bind, M.ret, M.opt, sSet, sOpt, setD, mB, mCons, mNil, mVar, sRetV, sRet, outs, outOf, mCall, rCons, rVar, rNil, mArV, callM, arsSV, arSV, slotsOf, putB, setCell, rvD, mBN, nmD, fz, mFz, mLst, mTup, mTru, mTruN, mTNot, mTOr, mTAnd, mIf, mOr, mAnd, mNot, dTru, m1, mSl, mPart, mNoPart, mM0, mM1, mComp, compL, inner, noCell, wipeE, restE, turnC, sFor, forL, turnL, mItems, itemsD, mItemsX, itemsX, mRng, sApp, lstAt, appAt, sAsg, gsTup, gsCons, gsNil, m2N, opAt, isSc, sRetF, sSetF, setO, mCallF, frC, mChain, e1, l2, isSc_i, ix0, ix1, dEq_i, dLt_i, dLe_i, ea, eb, strI, h1, h2, h3]
              · simp [m_is_stretch, b_is_stretch, m_is_pair, b_is_pair, mkF, up, sSeq, sIf, sE, mT, m2, mIxN, mNm, itemOf, M.bind, M.ret, M.opt, sSet, sOpt, setD, mB, mCons, mNil, mVar, sRetV, sRet, outs, outOf, mCall, rCons, rVar, rNil, mArV, callM, arsSV, arSV, slotsOf, putB, setCell, rvD, mBN, nmD, fz, mFz, mLst, mTup, mTru, mTruN, mTNot, mTOr, mTAnd, mIf, mOr, mAnd, mNot, dTru, m1, mSl, mPart, mNoPart, mM0, mM1, mComp, compL, inner, noCell, wipeE, restE, turnC, sFor, forL, turnL, mItems, itemsD, mItemsX, itemsX, mRng, sApp, lstAt, appAt, sAsg, gsTup, gsCons, gsNil, m2N, opAt, isSc, sRetF, sSetF, setO, mCallF, frC, mChain, e1, l2, isSc_i, ix0, ix1, dEq_i, dLt_i, dLe_i, ea, eb, strI, h1, h2]
            · simp [m_is_stretch, b_is_stretch, m_is_pair, b_is_pair, mkF, up, sSeq, sIf, sE, mT, m2, mIxN, mNm, itemOf, M.bind, M.ret, M.opt, sSet, sOpt, setD, mB, mCons, mNil, mVar, sRetV, sRet, outs, outOf, mCall, rCons, rVar, rNil, mArV, callM, arsSV, arSV, slotsOf, putB, setCell, rvD, mBN, nmD, fz, mFz, mLst, mTup, mTru, mTruN, mTNot, mTOr, mTAnd, mIf, mOr, mAnd, mNot, dTru, m1, mSl, mPart, mNoPart, mM0, mM1, mComp, compL, inner, noCell, wipeE, restE, turnC, sFor, forL, turnL, mItems, itemsD, mItemsX, itemsX, mRng, sApp, lstAt, appAt, sAsg, gsTup, gsCons, gsNil, m2N, opAt, isSc, sRetF, sSetF, setO, mCallF, frC, mChain, e1, l2, isSc_i, ix0, ix1, dEq_i, dLt_i, dLe_i, ea, eb, strI, h1]
          · have hb' : edgeB b = false := by simpa using hb
            rw [hb'] at eb
            have hs : strB (.tup [.int x, b]) = false := by
              cases b with
              | int y => simp only [strB, show edgeI y = false from hb', Bool.and_false, Bool.false_and]
              | _ => rfl
            rw [hs]
            simp [m_is_stretch, b_is_stretch, m_is_pair, b_is_pair, mkF, up, sSeq, sIf, sE, mT, m2, mIxN, mNm, itemOf, M.bind, M.ret, M.opt, sSet, sOpt, setD, mB, mCons, mNil, mVar, sRetV, sRet, outs, outOf, mCall, rCons, rVar, rNil, mArV, callM, arsSV, arSV, slotsOf, putB, setCell, rvD, mBN, nmD, fz, mFz, mLst, mTup, mTru, mTruN, mTNot, mTOr, mTAnd, mIf, mOr, mAnd, mNot, dTru, m1, mSl, mPart, mNoPart, mM0, mM1, mComp, compL, inner, noCell, wipeE, restE, turnC, sFor, forL, turnL, mItems, itemsD, mItemsX, itemsX, mRng, sApp, lstAt, appAt, sAsg, gsTup, gsCons, gsNil, m2N, opAt, isSc, sRetF, sSetF, setO, mCallF, frC, mChain, e1, l2, isSc_i, ix0, ix1, dEq_i, ea, eb]
        · have ha' : edgeB a = false := by simpa using ha
          rw [ha'] at ea
          have hs : strB (.tup [a, b]) = false := by
            cases a with
            | int x => cases b with
              | int y => simp only [strB, show edgeI x = false from ha', Bool.false_and]
              | _ => rfl
            | _ => rfl
          rw [hs]
          simp [m_is_stretch, b_is_stretch, m_is_pair, b_is_pair, mkF, up, sSeq, sIf, sE, mT, m2, mIxN, mNm, itemOf, M.bind, M.ret, M.opt, sSet, sOpt, setD, mB, mCons, mNil, mVar, sRetV, sRet, outs, outOf, mCall, rCons, rVar, rNil, mArV, callM, arsSV, arSV, slotsOf, putB, setCell, rvD, mBN, nmD, fz, mFz, mLst, mTup, mTru, mTruN, mTNot, mTOr, mTAnd, mIf, mOr, mAnd, mNot, dTru, m1, mSl, mPart, mNoPart, mM0, mM1, mComp, compL, inner, noCell, wipeE, restE, turnC, sFor, forL, turnL, mItems, itemsD, mItemsX, itemsX, mRng, sApp, lstAt, appAt, sAsg, gsTup, gsCons, gsNil, m2N, opAt, isSc, sRetF, sSetF, setO, mCallF, frC, mChain, e1, l2, isSc_i, ix0, ix1, dEq_i, ea]
    · have hs : strB (.tup xs) = false := by
        unfold strB
        split
        · rename_i x y e
          cases e
          exact absurd rfl hl
        · rfl
      rw [hs]
      have hl' : ¬ ((xs.length : Int) = 2) := by omega
      simp [m_is_stretch, b_is_stretch, m_is_pair, b_is_pair, mkF, up, sSeq, sIf, sE, mT, m2, mIxN, mNm, itemOf, M.bind, M.ret, M.opt, sSet, sOpt, setD, mB, mCons, mNil, mVar, sRetV, sRet, outs, outOf, mCall, rCons, rVar, rNil, mArV, callM, arsSV, arSV, slotsOf, putB, setCell, rvD, mBN, nmD, fz, mFz, mLst, mTup, mTru, mTruN, mTNot, mTOr, mTAnd, mIf, mOr, mAnd, mNot, dTru, m1, mSl, mPart, mNoPart, mM0, mM1, mComp, compL, inner, noCell, wipeE, restE, turnC, sFor, forL, turnL, mItems, itemsD, mItemsX, itemsX, mRng, sApp, lstAt, appAt, sAsg, gsTup, gsCons, gsNil, m2N, opAt, isSc, sRetF, sSetF, setO, mCallF, frC, mChain, e1, gLen_t, isSc_i, dEq_i, hl']
  | _ => cases hp
theorem law_stretch {d : D} (h : okT d) : m_law_is_stretch [.d d] = some (.ret (.d (.bl (strB d))) [.d d]) := by
  obtain ⟨hp, hq⟩ := h
  have key : ∀ (t : String), tyN d = some (.b t) → okIns ins d = true → lkT kt (.b t) (.b "tuple") = some false → strB d = false → m_law_is_stretch [.d d] = some (.ret (.d (.bl (strB d))) [.d d]) := fun t h1 h2 h3 h4 => by
    have e1 : gIsi kt ins [d, .ty "tuple"] = some (.bl false) := isi_eq h1 h2 h3
    rw [h4]
    simp [m_law_is_stretch, b_law_is_stretch, mkF, up, sSeq, sIf, sE, mT, m2, mIxN, mNm, itemOf, M.bind, M.ret, M.opt, sSet, sOpt, setD, mB, mCons, mNil, mVar, sRetV, sRet, outs, outOf, mCall, rCons, rVar, rNil, mArV, callM, arsSV, arSV, slotsOf, putB, setCell, rvD, mBN, nmD, fz, mFz, mLst, mTup, mTru, mTruN, mTNot, mTOr, mTAnd, mIf, mOr, mAnd, mNot, dTru, m1, mSl, mPart, mNoPart, mM0, mM1, mComp, compL, inner, noCell, wipeE, restE, turnC, sFor, forL, turnL, mItems, itemsD, mItemsX, itemsX, mRng, sApp, lstAt, appAt, sAsg, gsTup, gsCons, gsNil, m2N, opAt, isSc, sRetF, sSetF, setO, mCallF, frC, mChain, e1]
  cases d with
  | non => exact key "NoneType" rfl rfl (by decide +kernel) rfl
  | bl b => exact key "bool" rfl rfl (by decide +kernel) rfl
  | int i => exact key "int" rfl rfl (by decide +kernel) rfl
  | str y => exact key "str" rfl rfl (by decide +kernel) rfl
  | lst xs => exact key "list" rfl rfl (by decide +kernel) rfl
  | tup xs =>
    have e1 : gIsi kt ins [.tup xs, .ty "tuple"] = some (.bl true) := isi_eq (t := "tuple") rfl rfl (by decide +kernel)
    by_cases hl : xs.length = 2
    · match xs, hl with
      | [a, b], _ =>
        obtain ⟨pa, pb⟩ := hq a b rfl
        have ea := law_edge pa
        have eb := law_edge pb
        have l2 : gLen [.tup [a, b]] = some (.int 2) := rfl
        by_cases ha : edgeB a = true
        · obtain ⟨x, rfl, hx⟩ := edgeB_int ha
          rw [ha] at ea
          by_cases hb : edgeB b = true
          · obtain ⟨y, rfl, hy⟩ := edgeB_int hb
            rw [hb] at eb
            have hs : strB (.tup [.int x, .int y]) = strI x y := by simp [strB, hx, hy]
            rw [hs]
            by_cases h1 : -10000000000000000000000000000000 < y
            · by_cases h2 : x < 10000000000000000000000000000000
              · by_cases h3 : x ≤ y <;> simp [m_law_is_stretch, b_law_is_stretch, mkF, up, sSeq, sIf, sE, mT, m2, mIxN, mNm, itemOf, M.bind, M.ret, M.opt, sSet, sOpt, setD, mB, mCons, mNil, mVar, sRetV, sRet, outs, outOf, mCall, rCons, rVar, rNil, mArV, callM, arsSV, arSV, slotsOf, putB, setCell, rvD, mBN, nmD, fz, mFz, mLst, mTup, mTru, mTruN, mTNot, mTOr, mTAnd, mIf, mOr, mAnd, mNot, dTru, m1, mSl, mPart, mNoPart, mM0, mM1, mComp, compL, inner, noCell, wipeE, restE, turnC, sFor, forL, turnL, mItems, itemsD, mItemsX, itemsX, mRng, sApp, lstAt, appAt, sAsg, gsTup, gsCons, gsNil, m2N, opAt, isSc, sRetF, sSetF, setO, mCallF, frC, mChain, e1, l2, isSc_i, ix0, ix1, dNe_i, dLt_i, dLe_i, dGt_i, dNeg_i, p31, ea, eb, strI, h1, h2, h3]
              · by_cases h3 : x ≤ y <;> simp [m_law_is_stretch, b_law_is_stretch, mkF, up, sSeq, sIf, sE, mT, m2, mIxN, mNm, itemOf, M.bind, M.ret, M.opt, sSet, sOpt, setD, mB, mCons, mNil, mVar, sRetV, sRet, outs, outOf, mCall, rCons, rVar, rNil, mArV, callM, arsSV, arSV, slotsOf, putB, setCell, rvD, mBN, nmD, fz, mFz, mLst, mTup, mTru, mTruN, mTNot, mTOr, mTAnd, mIf, mOr, mAnd, mNot, dTru, m1, mSl, mPart, mNoPart, mM0, mM1, mComp, compL, inner, noCell, wipeE, restE, turnC, sFor, forL, turnL, mItems, itemsD, mItemsX, itemsX, mRng, sApp, lstAt, appAt, sAsg, gsTup, gsCons, gsNil, m2N, opAt, isSc, sRetF, sSetF, setO, mCallF, frC, mChain, e1, l2, isSc_i, ix0, ix1, dNe_i, dLt_i, dLe_i, dGt_i, dNeg_i, p31, ea, eb, strI, h1, h2, h3]
            · by_cases h2 : x < 10000000000000000000000000000000
              · by_cases h3 : x ≤ y <;> simp [m_law_is_stretch, b_law_is_stretch, mkF, up, sSeq, sIf, sE, mT, m2, mIxN, mNm, itemOf, M.bind, M.ret, M.opt, sSet, sOpt, setD, mB, mCons, mNil, mVar, sRetV, sRet, outs, outOf, mCall, rCons, rVar, rNil, mArV, callM, arsSV, arSV, slotsOf, putB, setCell, rvD, mBN, nmD, fz, mFz, mLst, mTup, mTru, mTruN, mTNot, mTOr, mTAnd, mIf, mOr, mAnd, mNot, dTru, m1, mSl, mPart, mNoPart, mM0, mM1, mComp, compL, inner, noCell, wipeE, restE, turnC, sFor, forL, turnL, mItems, itemsD, mItemsX, itemsX, mRng, sApp, lstAt, appAt, sAsg, gsTup, gsCons, gsNil, m2N, opAt, isSc, sRetF, sSetF, setO, mCallF, frC, mChain, e1, l2, isSc_i, ix0, ix1, dNe_i, dLt_i, dLe_i, dGt_i, dNeg_i, p31, ea, eb, strI, h1, h2, h3]
              · by_cases h3 : x ≤ y <;> simp [m_law_is_stretch, b_law_is_stretch, mkF, up, sSeq, sIf, sE, mT, m2, mIxN, mNm, itemOf, M.bind, M.ret, M.opt, sSet, sOpt, setD, mB, mCons, mNil, mVar, sRetV, sRet, outs, outOf, mCall, rCons, rVar, rNil, mArV, callM, arsSV, arSV, slotsOf, putB, setCell, rvD, mBN, nmD, fz, mFz, mLst, mTup, mTru, mTruN, mTNot, mTOr, mTAnd, mIf, mOr, mAnd, mNot, dTru, m1, mSl, mPart, mNoPart, mM0, mM1, mComp, compL, inner, noCell, wipeE, restE, turnC, sFor, forL, turnL, mItems, itemsD, mItemsX, itemsX, mRng, sApp, lstAt, appAt, sAsg, gsTup, gsCons, gsNil, m2N, opAt, isSc, sRetF, sSetF, setO, mCallF, frC, mChain, e1, l2, isSc_i, ix0, ix1, dNe_i, dLt_i, dLe_i, dGt_i, dNeg_i, p31, ea, eb, strI, h1, h2, h3]
          · have hb' : edgeB b = false := by simpa using hb
            rw [hb'] at eb
            have hs : strB (.tup [.int x, b]) = false := by
              cases b with
              | int y => simp only [strB, show edgeI y = false from hb', Bool.and_false, Bool.false_and]
              | _ => rfl
            rw [hs]
            simp [m_law_is_stretch, b_law_is_stretch, mkF, up, sSeq, sIf, sE, mT, m2, mIxN, mNm, itemOf, M.bind, M.ret, M.opt, sSet, sOpt, setD, mB, mCons, mNil, mVar, sRetV, sRet, outs, outOf, mCall, rCons, rVar, rNil, mArV, callM, arsSV, arSV, slotsOf, putB, setCell, rvD, mBN, nmD, fz, mFz, mLst, mTup, mTru, mTruN, mTNot, mTOr, mTAnd, mIf, mOr, mAnd, mNot, dTru, m1, mSl, mPart, mNoPart, mM0, mM1, mComp, compL, inner, noCell, wipeE, restE, turnC, sFor, forL, turnL, mItems, itemsD, mItemsX, itemsX, mRng, sApp, lstAt, appAt, sAsg, gsTup, gsCons, gsNil, m2N, opAt, isSc, sRetF, sSetF, setO, mCallF, frC, mChain, e1, l2, isSc_i, ix0, ix1, dNe_i, ea, eb]
        · have ha' : edgeB a = false := by simpa using ha
          rw [ha'] at ea
          have hs : strB (.tup [a, b]) = false := by
            cases a with
            | int x => cases b with
              | int y => simp only [strB, show edgeI x = false from ha', Bool.false_and]
              | _ => rfl
            | _ => rfl
          rw [hs]
          simp [m_law_is_stretch, b_law_is_stretch, mkF, up, sSeq, sIf, sE, mT, m2, mIxN, mNm, itemOf, M.bind, M.ret, M.opt, sSet, sOpt, setD, mB, mCons, mNil, mVar, sRetV, sRet, outs, outOf, mCall, rCons, rVar, rNil, mArV, callM, arsSV, arSV, slotsOf, putB, setCell, rvD, mBN, nmD, fz, mFz, mLst, mTup, mTru, mTruN, mTNot, mTOr, mTAnd, mIf, mOr, mAnd, mNot, dTru, m1, mSl, mPart, mNoPart, mM0, mM1, mComp, compL, inner, noCell, wipeE, restE, turnC, sFor, forL, turnL, mItems, itemsD, mItemsX, itemsX, mRng, sApp, lstAt, appAt, sAsg, gsTup, gsCons, gsNil, m2N, opAt, isSc, sRetF, sSetF, setO, mCallF, frC, mChain, e1, l2, isSc_i, ix0, ix1, dNe_i, ea]
    · have hs : strB (.tup xs) = false := by
        unfold strB
        split
        · rename_i x y e
          cases e
          exact absurd rfl hl
        · rfl
      rw [hs]
      have hl' : ¬ ((xs.length : Int) = 2) := by omega
      simp [m_law_is_stretch, b_law_is_stretch, mkF, up, sSeq, sIf, sE, mT, m2, mIxN, mNm, itemOf, M.bind, M.ret, M.opt, sSet, sOpt, setD, mB, mCons, mNil, mVar, sRetV, sRet, outs, outOf, mCall, rCons, rVar, rNil, mArV, callM, arsSV, arSV, slotsOf, putB, setCell, rvD, mBN, nmD, fz, mFz, mLst, mTup, mTru, mTruN, mTNot, mTOr, mTAnd, mIf, mOr, mAnd, mNot, dTru, m1, mSl, mPart, mNoPart, mM0, mM1, mComp, compL, inner, noCell, wipeE, restE, turnC, sFor, forL, turnL, mItems, itemsD, mItemsX, itemsX, mRng, sApp, lstAt, appAt, sAsg, gsTup, gsCons, gsNil, m2N, opAt, isSc, sRetF, sSetF, setO, mCallF, frC, mChain, e1, gLen_t, isSc_i, dNe_i, hl']
  | _ => cases hp
theorem mkF_nx {n N : Nat} {body : MS} {args : List SV} {ev : Ev} (h : args.length = n) (hb : body (up args ++ List.replicate (N - n) none) = some (.nx ev)) : mkF n N body args = some (.ret (.d .non) (outs args ev)) := by
  simp only [mkF, h, if_true, hb]
def chkB : MS := sIf (mTNot (mTru (mCall m_is_stretch [] (rVar 2 rNil)))) (sRaise "BadItem" "index" (mVar 1)) (fun ev => some (.nx ev))
theorem chk_go {d y : D} {k : Nat} {e1 e2 : Option SV} (ho : okT y) (hs : strB y = true) (h1 : Dt e1) (h2 : Dt e2) : ∃ ev1 ev2, gsTup 2 (gsCons (setD 1) (gsCons (setD 2) gsNil)) (.tup [.int (k : Int), y]) [some (.d d), e1, e2] = some ev1 ∧ (chkB ev1 = some (.nx ev2) ∨ chkB ev1 = some (.ct ev2)) ∧ ∃ e1 e2, ev2 = [some (.d d), e1, e2] ∧ Dt e1 ∧ Dt e2 := by
  have e := is_stretch ho
  rw [hs] at e
  refine ⟨[some (.d d), some (.d (.int (k : Int))), some (.d y)], [some (.d d), some (.d (.int (k : Int))), some (.d y)], ?_, .inl ?_, _, _, rfl, .inr ⟨_, rfl⟩, .inr ⟨_, rfl⟩⟩
  · rcases h1 with rfl | ⟨q1, rfl⟩ <;> rcases h2 with rfl | ⟨q2, rfl⟩ <;> rfl
  · simp [chkB, mkF, up, sSeq, sIf, sE, mT, m2, mIxN, mNm, itemOf, M.bind, M.ret, M.opt, sSet, sOpt, setD, mB, mCons, mNil, mVar, sRetV, sRet, outs, outOf, mCall, rCons, rVar, rNil, mArV, callM, arsSV, arSV, slotsOf, putB, setCell, rvD, mBN, nmD, fz, mFz, mLst, mTup, mTru, mTruN, mTNot, mTOr, mTAnd, mIf, mOr, mAnd, mNot, dTru, m1, mSl, mPart, mNoPart, mM0, mM1, mComp, compL, inner, noCell, wipeE, restE, turnC, sFor, forL, turnL, mItems, itemsD, mItemsX, itemsX, mRng, sApp, lstAt, appAt, sAsg, gsTup, gsCons, gsNil, m2N, opAt, isSc, sRetF, sSetF, setO, mCallF, frC, mChain, e]
theorem check_ok {d : D} {xs : List D} (hd : itemsD d = some xs) (h : ∀ x ∈ xs, okT x ∧ strB x = true) : m_check_spans [.d d] = some (.ret (.d .non) [.d d]) := by
  have it : mEnum (mVar 0) [some (.d d), none, none] = some (.ok (enumD xs) [some (.d d), none, none]) := by simp [mEnum, mkF, up, sSeq, sIf, sE, mT, m2, mIxN, mNm, itemOf, M.bind, M.ret, M.opt, sSet, sOpt, setD, mB, mCons, mNil, mVar, sRetV, sRet, outs, outOf, mCall, rCons, rVar, rNil, mArV, callM, arsSV, arSV, slotsOf, putB, setCell, rvD, mBN, nmD, fz, hd]
  obtain ⟨ev', e, e1, e2, rfl, _, _⟩ := forL_inv (gs := gsTup 2 (gsCons (setD 1) (gsCons (setD 2) gsNil))) (cb := chkB)
    (J := fun _ ev => ∃ e1 e2, ev = [some (.d d), e1, e2] ∧ Dt e1 ∧ Dt e2) (xs := enumD xs) (i := 0) (ev := [some (.d d), none, none]) ⟨none, none, rfl, .inl rfl, .inl rfl⟩ (fun k x ev hk hj => by
      obtain ⟨e1, e2, rfl, h1, h2⟩ := hj
      obtain ⟨y, hy, rfl⟩ := enumD_get hk
      obtain ⟨ho, hs⟩ := h y (List.mem_of_getElem? hy)
      exact chk_go ho hs h1 h2)
  exact mkF_nx (n := 1) (N := 3) (body := b_check_spans) (args := [.d d]) (ev := [some (.d d), e1, e2]) rfl (sFor_ok it e)
theorem enumD_at {xs : List D} {k : Nat} {y : D} (h : xs[k]? = some y) : (enumD xs)[k]? = some (.tup [.int (k : Int), y]) := by
  unfold enumD
  rw [List.getElem?_map, List.getElem?_zipIdx, h]
  simp
theorem check_bad {d : D} {xs : List D} {k : Nat} {y : D} (hd : itemsD d = some xs) (hy : xs[k]? = some y) (ho : okT y) (hs : strB y = false) (h : ∀ j x, j < k → xs[j]? = some x → okT x ∧ strB x = true) : m_check_spans [.d d] = some (.raise ⟨"BadItem", ["index"], [.int (k : Int)]⟩ [.d d]) := by
  have it : mEnum (mVar 0) [some (.d d), none, none] = some (.ok (enumD xs) [some (.d d), none, none]) := by simp [mEnum, mkF, up, sSeq, sIf, sE, mT, m2, mIxN, mNm, itemOf, M.bind, M.ret, M.opt, sSet, sOpt, setD, mB, mCons, mNil, mVar, sRetV, sRet, outs, outOf, mCall, rCons, rVar, rNil, mArV, callM, arsSV, arSV, slotsOf, putB, setCell, rvD, mBN, nmD, fz, hd]
  have e := is_stretch ho
  rw [hs] at e
  obtain ⟨o, e5, e1, e2, rfl⟩ := forL_stop (gs := gsTup 2 (gsCons (setD 1) (gsCons (setD 2) gsNil))) (cb := chkB)
    (J := fun _ ev => ∃ e1 e2, ev = [some (.d d), e1, e2] ∧ Dt e1 ∧ Dt e2) (Q := fun o => ∃ e1 e2, o = .er ⟨"BadItem", ["index"], [.int (k : Int)]⟩ [some (.d d), e1, e2]) (enumD_at hy) (i := 0) (ev := [some (.d d), none, none]) ⟨none, none, rfl, .inl rfl, .inl rfl⟩ (fun j x ev hj hx hq => by
      obtain ⟨e1, e2, rfl, h1, h2⟩ := hq
      obtain ⟨y, hy, rfl⟩ := enumD_get hx
      obtain ⟨ho, hs⟩ := h j y hj hy
      exact chk_go ho hs h1 h2) (fun ev hq => by
      obtain ⟨e1, e2, rfl, h1, h2⟩ := hq
      refine ⟨[some (.d d), some (.d (.int (k : Int))), some (.d y)], .er ⟨"BadItem", ["index"], [.int (k : Int)]⟩ [some (.d d), some (.d (.int (k : Int))), some (.d y)], ?_, ?_, turnL_er, _, _, rfl⟩
      · rcases h1 with rfl | ⟨q1, rfl⟩ <;> rcases h2 with rfl | ⟨q2, rfl⟩ <;> rfl
      · simp [chkB, mkF, up, sSeq, sIf, sE, mT, m2, mIxN, mNm, itemOf, M.bind, M.ret, M.opt, sSet, sOpt, setD, mB, mCons, mNil, mVar, sRetV, sRet, outs, outOf, mCall, rCons, rVar, rNil, mArV, callM, arsSV, arSV, slotsOf, putB, setCell, rvD, mBN, nmD, fz, mFz, mLst, mTup, mTru, mTruN, mTNot, mTOr, mTAnd, mIf, mOr, mAnd, mNot, dTru, m1, mSl, mPart, mNoPart, mM0, mM1, mComp, compL, inner, noCell, wipeE, restE, turnC, sFor, forL, turnL, mItems, itemsD, mItemsX, itemsX, mRng, sApp, lstAt, appAt, sAsg, gsTup, gsCons, gsNil, m2N, opAt, isSc, sRetF, sSetF, setO, mCallF, frC, mChain, e, sRaise])
  exact mkF_er (n := 1) (N := 3) (body := b_check_spans) (args := [.d d]) (ev := [some (.d d), e1, e2]) rfl (sFor_ok it e5)
theorem first_bad : ∀ (xs : List D), (∀ x ∈ xs, strB x = true) ∨ ∃ (k : Nat) (y : D), xs[k]? = some y ∧ strB y = false ∧ ∀ j x, j < k → xs[j]? = some x → strB x = true
  | [] => .inl fun x hx => by cases hx
  | x :: xs => by
    by_cases h : strB x = true
    · rcases first_bad xs with h2 | ⟨k, y, h1, h2, h3⟩
      · exact .inl fun z hz => by
          rcases List.mem_cons.mp hz with rfl | hz
          · exact h
          · exact h2 z hz
      · refine .inr ⟨k + 1, y, by simpa using h1, h2, fun j z hj hz => ?_⟩
        cases j with
        | zero =>
          simp only [List.getElem?_cons_zero, Option.some.injEq] at hz
          subst hz
          exact h
        | succ j => exact h3 j z (by omega) (by simpa using hz)
    · exact .inr ⟨0, x, rfl, by simpa using h, fun j z hj => by omega⟩
theorem strB_pair {d : D} (h : strB d = true) : ∃ p : Int × Int, d = pD p ∧ p.1 ≤ p.2 := by
  unfold strB at h
  split at h
  · rename_i x y
    refine ⟨(x, y), rfl, ?_⟩
    simp only [strI, Bool.and_eq_true, decide_eq_true_eq] at h
    exact h.2.1.1
  · cases h
theorem all_pairs : ∀ {xs : List D}, (∀ x ∈ xs, strB x = true) → ∃ ps : List (Int × Int), xs = ps.map pD ∧ ∀ p ∈ ps, p.1 ≤ p.2
  | [], _ => ⟨[], rfl, fun p hp => by cases hp⟩
  | x :: xs, h => by
    obtain ⟨p, rfl, hp⟩ := strB_pair (h x (List.mem_cons_self ..))
    obtain ⟨ps, rfl, hps⟩ := all_pairs fun y hy => h y (List.mem_cons_of_mem _ hy)
    exact ⟨p :: ps, rfl, fun q hq => by
      rcases List.mem_cons.mp hq with rfl | hq
      · exact hp
      · exact hps q hq⟩
end Q
set_option Elab.async false
set_option linter.all false
set_option maxRecDepth 100000
set_option maxHeartbeats 1000000
namespace Q
open PySem
open PySem.Spec
open L2
open FL
def sHalf : Str := Str.ofString "half"
def sShut : Str := Str.ofString "shut"
theorem is_ends : m_is_ends [.d (.str sHalf)] = some (.ret (.d (.bl true)) [.d (.str sHalf)]) := by
  have e1 : gIsi kt ins [.str sHalf, .ty "str"] = some (.bl true) := isi_eq (t := "str") rfl rfl (by decide +kernel)
  have e2 : dIn (.str sHalf) (.tup [.str sHalf, .str sShut]) = some (.bl true) := by simp [dIn, dIn0, scV, scVs, inV, eqV]
  unfold sHalf sShut at *
  simp [m_is_ends, b_is_ends, mkF, up, sSeq, sIf, sE, mT, m2, mIxN, mNm, itemOf, M.bind, M.ret, M.opt, sSet, sOpt, setD, mB, mCons, mNil, mVar, sRetV, sRet, outs, outOf, mCall, rCons, rVar, rNil, mArV, callM, arsSV, arSV, slotsOf, putB, setCell, rvD, mBN, nmD, fz, mFz, mLst, mTup, mTru, mTruN, mTNot, mTOr, mTAnd, mIf, mOr, mAnd, mNot, dTru, m1, mSl, mPart, mNoPart, mM0, mM1, mComp, compL, inner, noCell, wipeE, restE, turnC, sFor, forL, turnL, mItems, itemsD, mItemsX, itemsX, mRng, sApp, lstAt, appAt, sAsg, gsTup, gsCons, gsNil, m2N, opAt, isSc, sRetF, sSetF, setO, mCallF, frC, mChain, mCls, z2, e1, e2]
theorem check_ends : m_check_ends [.d (.str sHalf)] = some (.ret (.d .non) [.d (.str sHalf)]) := by
  simp [m_check_ends, b_check_ends, mkF, up, sSeq, sIf, sE, mT, m2, mIxN, mNm, itemOf, M.bind, M.ret, M.opt, sSet, sOpt, setD, mB, mCons, mNil, mVar, sRetV, sRet, outs, outOf, mCall, rCons, rVar, rNil, mArV, callM, arsSV, arSV, slotsOf, putB, setCell, rvD, mBN, nmD, fz, mFz, mLst, mTup, mTru, mTruN, mTNot, mTOr, mTAnd, mIf, mOr, mAnd, mNot, dTru, m1, mSl, mPart, mNoPart, mM0, mM1, mComp, compL, inner, noCell, wipeE, restE, turnC, sFor, forL, turnL, mItems, itemsD, mItemsX, itemsX, mRng, sApp, lstAt, appAt, sAsg, gsTup, gsCons, gsNil, m2N, opAt, isSc, sRetF, sSetF, setO, mCallF, frC, mChain, is_ends]
theorem is_empty {x y : Int} : m_is_empty [.d (.tup [.int x, .int y]), .d (.str sHalf)] = some (.ret (.d (.bl (decide (y < x) || decide (x = y)))) [.d (.tup [.int x, .int y]), .d (.str sHalf)]) := by
  have e1 : dEq (.str sHalf) (.str (Str.ofString "half")) = some (.bl true) := by rw [dEq_s]; simp [sHalf]
  have hx : ∃ q, decide (y < x) = q := ⟨_, rfl⟩
  obtain ⟨q, hq⟩ := hx
  rw [hq]
  have g : dGt (.int x) (.int y) = some (.bl q) := by rw [dGt_i, hq]
  cases q <;> simp [m_is_empty, b_is_empty, mkF, up, sSeq, sIf, sE, mT, m2, mIxN, mNm, itemOf, M.bind, M.ret, M.opt, sSet, sOpt, setD, mB, mCons, mNil, mVar, sRetV, sRet, outs, outOf, mCall, rCons, rVar, rNil, mArV, callM, arsSV, arSV, slotsOf, putB, setCell, rvD, mBN, nmD, fz, mFz, mLst, mTup, mTru, mTruN, mTNot, mTOr, mTAnd, mIf, mOr, mAnd, mNot, dTru, m1, mSl, mPart, mNoPart, mM0, mM1, mComp, compL, inner, noCell, wipeE, restE, turnC, sFor, forL, turnL, mItems, itemsD, mItemsX, itemsX, mRng, sApp, lstAt, appAt, sAsg, gsTup, gsCons, gsNil, m2N, opAt, isSc, sRetF, sSetF, setO, mCallF, frC, mChain, mCls, sExpr, check_ends, ix0, ix1, g, e1, dEq_i]
def mx (a b : Int) : Int := if b > a then b else a
theorem mx_comm (a b : Int) : mx a b = mx b a := by
  unfold mx
  split <;> split <;> omega
/-- one more pair behind the pairs in one form -/
def step (acc : List (Int × Int)) (p : Int × Int) : List (Int × Int) := match acc.getLast? with
  | some l => if p.1 ≤ l.2 then acc.dropLast ++ [(l.1, mx l.2 p.2)] else acc ++ [p]
  | none => acc ++ [p]
theorem step_nil (p : Int × Int) : step [] p = [p] := rfl
theorem step_app (r : List (Int × Int)) (l p : Int × Int) : step (r ++ [l]) p = if p.1 ≤ l.2 then r ++ [(l.1, mx l.2 p.2)] else r ++ [l] ++ [p] := by
  simp [step]
theorem step_len (acc : List (Int × Int)) (p : Int × Int) : (step acc p).length ≤ acc.length + 1 := by
  rcases List.eq_nil_or_concat acc with rfl | ⟨r, l, rfl⟩
  · simp [step_nil]
  · rw [List.concat_eq_append, step_app]
    split <;> simp
def merge (ps : List (Int × Int)) : List (Int × Int) := ps.foldl step []
def uni (ps : List (Int × Int)) : List (Int × Int) := merge (sortP (ps.filter fun p => !decide (p.1 = p.2)))
theorem ixm1 (r : List (Int × Int)) (l : Int × Int) : dIx (.lst ((r ++ [l]).map pD)) (.int (-1)) = some (.tup [.int l.1, .int l.2]) := by
  have h : L2.ixN ((r ++ [l]).map pD).length (-1) = some r.length := by
    simp only [L2.ixN, List.length_map, List.length_append, List.length_cons, List.length_nil]
    rw [if_neg (by decide), if_pos (by omega)]
    congr 1
    omega
  simp only [dIx, L2.atI, h, Option.bind]
  simp [pD]
theorem setm1 (r : List (Int × Int)) (l : Int × Int) (x y : Int) {s e : Option SV} {rest : List (Option SV)} : FL.setAt 2 (.int (-1)) (.tup [.int x, .int y]) (s :: e :: some (.own (.lst ((r ++ [l]).map pD))) :: rest) = some (s :: e :: some (.own (.lst ((r ++ [(x, y)]).map pD))) :: rest) := by
  have h : L2.ixN ((r ++ [l]).map pD).length (-1) = some r.length := by
    simp only [L2.ixN, List.length_map, List.length_append, List.length_cons, List.length_nil]
    rw [if_neg (by decide), if_pos (by omega)]
    congr 1
    omega
  simp only [FL.setAt, List.getElem?_cons_succ, List.getElem?_cons_zero, h, Option.map]
  simp [pD]
def uB : MS := (sIf (mTAnd (mTruN 2) (mT (m2 dLe (mVar 3) (m2 dIx (mIxN 2 (m1 dNeg (M.ret (.int 1)))) (M.ret (.int 1)))))) (sSetAt 2 (mTup (mCons (m2 dIx (mIxN 2 (m1 dNeg (M.ret (.int 1)))) (M.ret (.int 0))) (mCons (mB gMax2 (mCons (m2 dIx (mIxN 2 (m1 dNeg (M.ret (.int 1)))) (M.ret (.int 1))) (mCons (mVar 4) mNil))) mNil))) (m1 dNeg (M.ret (.int 1)))) (sApp 2 (mTup (mCons (mVar 3) (mCons (mVar 4) mNil)))))
theorem u_turn {s e e5 : Option SV} {x y : Int} {acc : List (Int × Int)} (hl : acc.length < 1000) : uB [s, e, some (.own (.lst (acc.map pD))), some (.d (.int x)), some (.d (.int y)), e5] = some (.nx [s, e, some (.own (.lst ((step acc (x, y)).map pD))), some (.d (.int x)), some (.d (.int y)), e5]) := by
  have hz : acc.length < sizeLine := by
    rw [sizeLine_eq]
    omega
  rcases List.eq_nil_or_concat acc with rfl | ⟨r, l, rfl⟩
  · simp [uB, mkF, up, sSeq, sIf, sE, mT, m2, mIxN, mNm, itemOf, M.bind, M.ret, M.opt, sSet, sOpt, setD, mB, mCons, mNil, mVar, sRetV, sRet, outs, outOf, mCall, rCons, rVar, rNil, mArV, callM, arsSV, arSV, slotsOf, putB, setCell, rvD, mBN, nmD, fz, mFz, mLst, mTup, mTru, mTruN, mTNot, mTOr, mTAnd, mIf, mOr, mAnd, mNot, dTru, m1, mSl, mPart, mNoPart, mM0, mM1, mComp, compL, inner, noCell, wipeE, restE, turnC, sFor, forL, turnL, mItems, itemsD, mItemsX, itemsX, mRng, sApp, lstAt, appAt, sAsg, gsTup, gsCons, gsNil, m2N, opAt, isSc, sRetF, sSetF, setO, mCallF, frC, mChain, step_nil, z2, pD]
    decide
  · rw [List.concat_eq_append] at *
    have i1 := ixm1 r l
    have hm : gMax2 [.int l.2, .int y] = some (.int (mx l.2 y)) := rfl
    have hs := setm1 r l l.1 (mx l.2 y) (s := s) (e := e) (rest := [some (.d (.int x)), some (.d (.int y)), e5])
    have ht : (r ++ [l]).map pD ≠ [] := by simp
    have ng : dNeg (.int 1) = some (.int (-1)) := rfl
    generalize hL : (r ++ [l]).map pD = L at *
    by_cases hc : x ≤ l.2
    · rw [step_app, if_pos hc]
      simp [uB, mkF, up, sSeq, sIf, sE, mT, m2, mIxN, mNm, itemOf, M.bind, M.ret, M.opt, sSet, sOpt, setD, mB, mCons, mNil, mVar, sRetV, sRet, outs, outOf, mCall, rCons, rVar, rNil, mArV, callM, arsSV, arSV, slotsOf, putB, setCell, rvD, mBN, nmD, fz, mFz, mLst, mTup, mTru, mTruN, mTNot, mTOr, mTAnd, mIf, mOr, mAnd, mNot, dTru, m1, mSl, mPart, mNoPart, mM0, mM1, mComp, compL, inner, noCell, wipeE, restE, turnC, sFor, forL, turnL, mItems, itemsD, mItemsX, itemsX, mRng, sApp, lstAt, appAt, sAsg, gsTup, gsCons, gsNil, m2N, opAt, isSc, sRetF, sSetF, setO, mCallF, frC, mChain, sSetAt, i1, ix0, ix1, ng, hm, hs, ht, dLe_i, hc, z2]
    · rw [step_app, if_neg hc]
      have hL2 : L.length < sizeLine := by rw [← hL, List.length_map]; exact hz
      simp [uB, mkF, up, sSeq, sIf, sE, mT, m2, mIxN, mNm, itemOf, M.bind, M.ret, M.opt, sSet, sOpt, setD, mB, mCons, mNil, mVar, sRetV, sRet, outs, outOf, mCall, rCons, rVar, rNil, mArV, callM, arsSV, arSV, slotsOf, putB, setCell, rvD, mBN, nmD, fz, mFz, mLst, mTup, mTru, mTruN, mTNot, mTOr, mTAnd, mIf, mOr, mAnd, mNot, dTru, m1, mSl, mPart, mNoPart, mM0, mM1, mComp, compL, inner, noCell, wipeE, restE, turnC, sFor, forL, turnL, mItems, itemsD, mItemsX, itemsX, mRng, sApp, lstAt, appAt, sAsg, gsTup, gsCons, gsNil, m2N, opAt, isSc, sRetF, sSetF, setO, mCallF, frC, mChain, sSetAt, i1, ix0, ix1, ng, hm, hs, ht, dLe_i, hc, z2, hL2]
      rw [← hL]
      simp [pD]
end Q
set_option Elab.async false
set_option linter.all false
set_option maxRecDepth 100000
set_option maxHeartbeats 1000000
namespace Q
open PySem
open PySem.Spec
open L2
open FL
def lB : MS := (sSeq (sIf (mTAnd (mT (m2 dEq (mVar 3) (mVar 4))) (mTNot (mTru (mVar 1)))) (fun ev => some (.ct ev)) (fun ev => some (.nx ev))) (sIf (mTAnd (mT (m2N dNe 2 (mFz (mLst mNil)))) (mT (m2 dLe (mVar 3) (m2 dIx (mIxN 2 (m1 dNeg (M.ret (.int 1)))) (M.ret (.int 1)))))) (sSetAt 2 (mTup (mCons (m2 dIx (mIxN 2 (m1 dNeg (M.ret (.int 1)))) (M.ret (.int 0))) (mCons (mB gMax2 (mCons (mB gInt1s (mCons (mVar 4) mNil)) (mCons (mB gInt1s (mCons (m2 dIx (mIxN 2 (m1 dNeg (M.ret (.int 1)))) (M.ret (.int 1))) mNil)) mNil))) mNil))) (m1 dNeg (M.ret (.int 1)))) (sApp 2 (mTup (mCons (mVar 3) (mCons (mVar 4) mNil))))))
theorem l_skip {s : Option SV} {x : Int} {acc : List D} : lB [s, some (.d (.bl false)), some (.own (.lst acc)), some (.d (.int x)), some (.d (.int x))] = some (.ct [s, some (.d (.bl false)), some (.own (.lst acc)), some (.d (.int x)), some (.d (.int x))]) := by
  simp [lB, mkF, up, sSeq, sIf, sE, mT, m2, mIxN, mNm, itemOf, M.bind, M.ret, M.opt, sSet, sOpt, setD, mB, mCons, mNil, mVar, sRetV, sRet, outs, outOf, mCall, rCons, rVar, rNil, mArV, callM, arsSV, arSV, slotsOf, putB, setCell, rvD, mBN, nmD, fz, mFz, mLst, mTup, mTru, mTruN, mTNot, mTOr, mTAnd, mIf, mOr, mAnd, mNot, dTru, m1, mSl, mPart, mNoPart, mM0, mM1, mComp, compL, inner, noCell, wipeE, restE, turnC, sFor, forL, turnL, mItems, itemsD, mItemsX, itemsX, mRng, sApp, lstAt, appAt, sAsg, gsTup, gsCons, gsNil, m2N, opAt, isSc, sRetF, sSetF, setO, mCallF, frC, mChain, dEq_i]
theorem l_turn {s : Option SV} {x y : Int} {acc : List (Int × Int)} (hl : acc.length < 1000) (hxy : x ≠ y) : lB [s, some (.d (.bl false)), some (.own (.lst (acc.map pD))), some (.d (.int x)), some (.d (.int y))] = some (.nx [s, some (.d (.bl false)), some (.own (.lst ((step acc (x, y)).map pD))), some (.d (.int x)), some (.d (.int y))]) := by
  have hz : acc.length < sizeLine := by
    rw [sizeLine_eq]
    omega
  have hn := dNe_nil acc
  rcases List.eq_nil_or_concat acc with rfl | ⟨r, l, rfl⟩
  · simp only [List.map_nil, List.isEmpty_nil, Bool.not_true] at hn
    simp [lB, mkF, up, sSeq, sIf, sE, mT, m2, mIxN, mNm, itemOf, M.bind, M.ret, M.opt, sSet, sOpt, setD, mB, mCons, mNil, mVar, sRetV, sRet, outs, outOf, mCall, rCons, rVar, rNil, mArV, callM, arsSV, arSV, slotsOf, putB, setCell, rvD, mBN, nmD, fz, mFz, mLst, mTup, mTru, mTruN, mTNot, mTOr, mTAnd, mIf, mOr, mAnd, mNot, dTru, m1, mSl, mPart, mNoPart, mM0, mM1, mComp, compL, inner, noCell, wipeE, restE, turnC, sFor, forL, turnL, mItems, itemsD, mItemsX, itemsX, mRng, sApp, lstAt, appAt, sAsg, gsTup, gsCons, gsNil, m2N, opAt, isSc, sRetF, sSetF, setO, mCallF, frC, mChain, step_nil, z0, z2, pD, dEq_i, hxy, hn]
    decide
  · rw [List.concat_eq_append] at *
    have i1 := ixm1 r l
    have hm : gMax2 [.int y, .int l.2] = some (.int (mx l.2 y)) := by rw [mx_comm]; rfl
    have hs := setm1 r l l.1 (mx l.2 y) (s := s) (e := some (.d (.bl false))) (rest := [some (.d (.int x)), some (.d (.int y))])
    have ht : (r ++ [l]).map pD ≠ [] := by simp
    have ng : dNeg (.int 1) = some (.int (-1)) := rfl
    have hi : ∀ i : Int, gInt1s [.int i] = some (.int i) := fun i => rfl
    have hn2 : (!(r ++ [l]).isEmpty) = true := by simp
    rw [hn2] at hn
    generalize hL : (r ++ [l]).map pD = L at *
    by_cases hc : x ≤ l.2
    · rw [step_app, if_pos hc]
      simp [lB, mkF, up, sSeq, sIf, sE, mT, m2, mIxN, mNm, itemOf, M.bind, M.ret, M.opt, sSet, sOpt, setD, mB, mCons, mNil, mVar, sRetV, sRet, outs, outOf, mCall, rCons, rVar, rNil, mArV, callM, arsSV, arSV, slotsOf, putB, setCell, rvD, mBN, nmD, fz, mFz, mLst, mTup, mTru, mTruN, mTNot, mTOr, mTAnd, mIf, mOr, mAnd, mNot, dTru, m1, mSl, mPart, mNoPart, mM0, mM1, mComp, compL, inner, noCell, wipeE, restE, turnC, sFor, forL, turnL, mItems, itemsD, mItemsX, itemsX, mRng, sApp, lstAt, appAt, sAsg, gsTup, gsCons, gsNil, m2N, opAt, isSc, sRetF, sSetF, setO, mCallF, frC, mChain, sSetAt, i1, ix0, ix1, ng, hm, hi, hs, ht, hn, dLe_i, hc, z0, z2, dEq_i, hxy]
    · rw [step_app, if_neg hc]
      have hL2 : L.length < sizeLine := by rw [← hL, List.length_map]; exact hz
      simp [lB, mkF, up, sSeq, sIf, sE, mT, m2, mIxN, mNm, itemOf, M.bind, M.ret, M.opt, sSet, sOpt, setD, mB, mCons, mNil, mVar, sRetV, sRet, outs, outOf, mCall, rCons, rVar, rNil, mArV, callM, arsSV, arSV, slotsOf, putB, setCell, rvD, mBN, nmD, fz, mFz, mLst, mTup, mTru, mTruN, mTNot, mTOr, mTAnd, mIf, mOr, mAnd, mNot, dTru, m1, mSl, mPart, mNoPart, mM0, mM1, mComp, compL, inner, noCell, wipeE, restE, turnC, sFor, forL, turnL, mItems, itemsD, mItemsX, itemsX, mRng, sApp, lstAt, appAt, sAsg, gsTup, gsCons, gsNil, m2N, opAt, isSc, sRetF, sSetF, setO, mCallF, frC, mChain, sSetAt, i1, ix0, ix1, ng, hm, hs, ht, hn, dLe_i, hc, z0, z2, dEq_i, hxy, hL2]
      rw [← hL]
      simp [pD]
def nE (p : Int × Int) : Bool := !decide (p.1 = p.2)
theorem filt (ps : List (Int × Int)) : (sortP ps).filter nE = sortP (ps.filter nE) := sortP_uniq ((sortP_pw ps).filter _) ((sortP_perm ps).filter _)
theorem sortP_len (ps : List (Int × Int)) : (sortP ps).length = ps.length := (sortP_perm ps).length_eq
theorem fold_len (qs : List (Int × Int)) (acc : List (Int × Int)) : (qs.foldl step acc).length ≤ acc.length + qs.length := by
  induction qs generalizing acc with
  | nil => simp
  | cons q qs ih =>
    have h1 := ih (step acc q)
    have h2 := step_len acc q
    rw [List.foldl_cons, List.length_cons]
    omega
theorem take_step {ps : List (Int × Int)} {k : Nat} {p : Int × Int} (h : ps[k]? = some p) : ps.take (k + 1) = ps.take k ++ [p] := by
  rw [List.take_add_one, h]
  rfl
theorem pD_at {ps : List (Int × Int)} {k : Nat} {x : D} (h : (ps.map pD)[k]? = some x) : ∃ p, ps[k]? = some p ∧ x = .tup [.int p.1, .int p.2] := by
  rw [List.getElem?_map] at h
  obtain ⟨p, h1, h2⟩ := Option.map_eq_some_iff.mp h
  exact ⟨p, h1, h2.symm⟩
theorem law_union {ps : List (Int × Int)} (hl : ps.length < 900) : m_law_union [.d (.lst (ps.map pD)), .d (.bl false)] = some (.ret (.fr (.lst ((uni ps).map pD))) [.d (.lst (ps.map pD)), .d (.bl false)]) := by
  obtain ⟨ev', e, acc, e3, e4, rfl, ha, _, _⟩ := forL_inv (gs := gsTup 2 (gsCons (setD 3) (gsCons (setD 4) gsNil))) (cb := lB)
    (J := fun i ev => ∃ acc e3 e4, ev = [some (.d (.lst (ps.map pD))), some (.d (.bl false)), some (.own (.lst (acc.map pD))), e3, e4] ∧ acc = (((sortP ps).take i).filter nE).foldl step [] ∧ Dt e3 ∧ Dt e4) (xs := (sortP ps).map pD) (i := 0) (ev := [some (.d (.lst (ps.map pD))), some (.d (.bl false)), some (.own (.lst [])), none, none])
    ⟨[], none, none, rfl, rfl, .inl rfl, .inl rfl⟩ (fun k x ev hk hj => by
      obtain ⟨acc, e3, e4, rfl, ha, h3, h4⟩ := hj
      obtain ⟨p, hp, rfl⟩ := pD_at hk
      rw [Nat.zero_add] at ha
      have hlen : acc.length < 1000 := by
        have h1 := fold_len (((sortP ps).take k).filter nE) []
        have h2 := List.length_filter_le nE ((sortP ps).take k)
        have h3 := List.length_take_le k (sortP ps)
        have h4 := List.length_take_le' k (sortP ps)
        rw [sortP_len] at h4
        rw [ha]
        simp only [List.length_nil] at h1
        omega
      have hset : gsTup 2 (gsCons (setD 3) (gsCons (setD 4) gsNil)) (.tup [.int p.1, .int p.2]) [some (.d (.lst (ps.map pD))), some (.d (.bl false)), some (.own (.lst (acc.map pD))), e3, e4] = some [some (.d (.lst (ps.map pD))), some (.d (.bl false)), some (.own (.lst (acc.map pD))), some (.d (.int p.1)), some (.d (.int p.2))] := by
        rcases h3 with rfl | ⟨q1, rfl⟩ <;> rcases h4 with rfl | ⟨q2, rfl⟩ <;> rfl
      by_cases hpp : p.1 = p.2
      · refine ⟨_, _, hset, .inr (by rw [hpp]; exact l_skip), acc, _, _, rfl, ?_, .inr ⟨_, rfl⟩, .inr ⟨_, rfl⟩⟩
        have hf : nE p = false := by simp [nE, hpp]
        rw [Nat.zero_add, take_step hp, List.filter_append, ha]
        simp [hf]
      · refine ⟨_, _, hset, .inl (l_turn hlen hpp), _, _, _, rfl, ?_, .inr ⟨_, rfl⟩, .inr ⟨_, rfl⟩⟩
        have hf : nE p = true := by simp [nE, hpp]
        rw [Nat.zero_add, take_step hp, List.filter_append, ha]
        simp [hf])
  have hu : acc = uni ps := by
    have hz : (0 + ((sortP ps).map pD).length) = (sortP ps).length := by simp
    rw [ha, hz, List.take_length, filt]
    rfl
  rw [hu] at e
  have it : mItemsX (mB gSortP (mCons (mVar 0) mNil)) [some (.d (.lst (ps.map pD))), some (.d (.bl false)), some (.own (.lst [])), none, none] = some (.ok ((sortP ps).map pD) [some (.d (.lst (ps.map pD))), some (.d (.bl false)), some (.own (.lst [])), none, none]) :=
    mItemsX_ok (mB_ok (mCons_ok rfl rfl) (gSortP_p ps)) rfl
  refine mkF_rt (n := 2) (N := 5) (body := b_law_union) (args := [.d (.lst (ps.map pD)), .d (.bl false)]) (r := .fr (.lst ((uni ps).map pD))) (ev := [some (.d (.lst (ps.map pD))), some (.d (.bl false)), some (.own (.lst ((uni ps).map pD))), e3, e4]) rfl ?_
  show b_law_union [some (.d (.lst (ps.map pD))), some (.d (.bl false)), none, none, none] = _
  unfold b_law_union
  have q1 : sSetF 2 (mLst mNil) [some (.d (.lst (ps.map pD))), some (.d (.bl false)), none, none, none] = some (.nx [some (.d (.lst (ps.map pD))), some (.d (.bl false)), some (.own (.lst [])), none, none]) := by simp [mkF, up, sSeq, sIf, sE, mT, m2, mIxN, mNm, itemOf, M.bind, M.ret, M.opt, sSet, sOpt, setD, mB, mCons, mNil, mVar, sRetV, sRet, outs, outOf, mCall, rCons, rVar, rNil, mArV, callM, arsSV, arSV, slotsOf, putB, setCell, rvD, mBN, nmD, fz, mFz, mLst, mTup, mTru, mTruN, mTNot, mTOr, mTAnd, mIf, mOr, mAnd, mNot, dTru, m1, mSl, mPart, mNoPart, mM0, mM1, mComp, compL, inner, noCell, wipeE, restE, turnC, sFor, forL, turnL, mItems, itemsD, mItemsX, itemsX, mRng, sApp, lstAt, appAt, sAsg, gsTup, gsCons, gsNil, m2N, opAt, isSc, sRetF, sSetF, setO, mCallF, frC, mChain, z0]
  exact (seq_nx q1).trans ((seq_nx (sFor_ok it e)).trans rfl)
theorem is_empty_p {p : Int × Int} (h : p.1 ≤ p.2) : m_is_empty [.d (.tup [.int p.1, .int p.2]), .d (.str sHalf)] = some (.ret (.d (.bl (!nE p))) [.d (.tup [.int p.1, .int p.2]), .d (.str sHalf)]) := by
  rw [is_empty]
  have : decide (p.2 < p.1) = false := decide_eq_false (by omega)
  rw [this]
  simp [nE]
def uComp (d : D) : Ev := [some (.d d), some (.d (.str sHalf)), some (.own (.lst [])), none, none, none]
theorem union_ {d : D} {ps : List (Int × Int)} (hd : itemsX d = some (ps.map pD)) (hc : m_check_spans [.d d] = some (.ret (.d .non) [.d d])) (hp : ∀ p ∈ ps, p.1 ≤ p.2) (hl : ps.length < 900) : m_union [.d d, .d (.str sHalf)] = some (.ret (.fr (.lst ((uni ps).map pD))) [.d d, .d (.str sHalf)]) := by
  obtain ⟨acc, ev', ec, rfl, ha⟩ := compL_inv (vs := [5]) (gs := setD 5) (ct := mTNot (mTru ((rVar 5 (rVar 1 rNil)).bind fun ars => callS (fun r => some (rvD r)) m_is_empty [.inl 0, .inl 1] (2 + 0) ars))) (ce := mVar 5)
    (J := fun i acc ev => ev = uComp d ∧ acc = ((ps.take i).filter nE).map pD) (xs := ps.map pD) (i := 0) (acc := []) (ev := uComp d) ⟨rfl, rfl⟩ (fun k x acc ev hk hj => by
      obtain ⟨rfl, ha⟩ := hj
      obtain ⟨p, hpk, rfl⟩ := pD_at hk
      have e := is_empty_p (hp p (List.mem_of_getElem? hpk))
      rw [Nat.zero_add] at ha ⊢
      have hk1 : k < ps.length := (List.getElem?_eq_some_iff.mp hpk).1
      have hle : acc.length < sizeLine := by
        rw [ha, List.length_map, sizeLine_eq]
        have h2 := List.length_filter_le nE (ps.take k)
        have h4 := List.length_take_le' k ps
        omega
      cases hq : nE p with
      | true =>
        rw [hq] at e
        refine ⟨some (.tup [.int p.1, .int p.2]), uComp d, ?_, hle, rfl, ?_⟩
        · simp [uComp, mkF, up, sSeq, sIf, sE, mT, m2, mIxN, mNm, itemOf, M.bind, M.ret, M.opt, sSet, sOpt, setD, mB, mCons, mNil, mVar, sRetV, sRet, outs, outOf, mCall, rCons, rVar, rNil, mArV, callM, arsSV, arSV, slotsOf, putB, setCell, rvD, mBN, nmD, fz, mFz, mLst, mTup, mTru, mTruN, mTNot, mTOr, mTAnd, mIf, mOr, mAnd, mNot, dTru, m1, mSl, mPart, mNoPart, mM0, mM1, mComp, compL, inner, noCell, wipeE, restE, turnC, sFor, forL, turnL, mItems, itemsD, mItemsX, itemsX, mRng, sApp, lstAt, appAt, sAsg, gsTup, gsCons, gsNil, m2N, opAt, isSc, sRetF, sSetF, setO, mCallF, frC, mChain, callS, arrA, arr, e]
        · rw [take_step hpk, List.filter_append, ha]
          simp [hq, pD]
      | false =>
        rw [hq] at e
        refine ⟨none, uComp d, ?_, rfl, ?_⟩
        · simp [uComp, mkF, up, sSeq, sIf, sE, mT, m2, mIxN, mNm, itemOf, M.bind, M.ret, M.opt, sSet, sOpt, setD, mB, mCons, mNil, mVar, sRetV, sRet, outs, outOf, mCall, rCons, rVar, rNil, mArV, callM, arsSV, arSV, slotsOf, putB, setCell, rvD, mBN, nmD, fz, mFz, mLst, mTup, mTru, mTruN, mTNot, mTOr, mTAnd, mIf, mOr, mAnd, mNot, dTru, m1, mSl, mPart, mNoPart, mM0, mM1, mComp, compL, inner, noCell, wipeE, restE, turnC, sFor, forL, turnL, mItems, itemsD, mItemsX, itemsX, mRng, sApp, lstAt, appAt, sAsg, gsTup, gsCons, gsNil, m2N, opAt, isSc, sRetF, sSetF, setO, mCallF, frC, mChain, callS, arrA, arr, e]
        · rw [take_step hpk, List.filter_append, ha]
          simp [hq])
  have ha' : acc = (ps.filter nE).map pD := by
    have hz : 0 + (ps.map pD).length = ps.length := by simp
    rw [ha, hz, List.take_length]
  subst ha'
  obtain ⟨ev', e, acc, e3, e4, rfl, ha, _, _⟩ := forL_inv (gs := gsTup 2 (gsCons (setD 3) (gsCons (setD 4) gsNil))) (cb := uB)
    (J := fun i ev => ∃ acc e3 e4, ev = [some (.d d), some (.d (.str sHalf)), some (.own (.lst (acc.map pD))), e3, e4, none] ∧ acc = ((sortP (ps.filter nE)).take i).foldl step [] ∧ Dt e3 ∧ Dt e4) (xs := (sortP (ps.filter nE)).map pD) (i := 0) (ev := uComp d)
    ⟨[], none, none, rfl, rfl, .inl rfl, .inl rfl⟩ (fun k x ev hk hj => by
      obtain ⟨acc, e3, e4, rfl, ha, h3, h4⟩ := hj
      obtain ⟨p, hp, rfl⟩ := pD_at hk
      rw [Nat.zero_add] at ha
      have hlen : acc.length < 1000 := by
        have h1 := fold_len ((sortP (ps.filter nE)).take k) []
        have h2 := List.length_filter_le nE ps
        have h4 := List.length_take_le' k (sortP (ps.filter nE))
        rw [sortP_len] at h4
        rw [ha]
        simp only [List.length_nil] at h1
        omega
      have hset : gsTup 2 (gsCons (setD 3) (gsCons (setD 4) gsNil)) (.tup [.int p.1, .int p.2]) [some (.d d), some (.d (.str sHalf)), some (.own (.lst (acc.map pD))), e3, e4, none] = some [some (.d d), some (.d (.str sHalf)), some (.own (.lst (acc.map pD))), some (.d (.int p.1)), some (.d (.int p.2)), none] := by
        rcases h3 with rfl | ⟨q1, rfl⟩ <;> rcases h4 with rfl | ⟨q2, rfl⟩ <;> rfl
      refine ⟨_, _, hset, .inl (u_turn hlen), _, _, _, rfl, ?_, .inr ⟨_, rfl⟩, .inr ⟨_, rfl⟩⟩
      rw [Nat.zero_add, take_step hp, ha]
      simp)
  have hu : acc = uni ps := by
    have hz : (0 + ((sortP (ps.filter nE)).map pD).length) = (sortP (ps.filter nE)).length := by simp
    rw [ha, hz, List.take_length]
    rfl
  rw [hu] at e
  have it : mItemsX (mB gSortP (mCons (mFz (mComp [5] (setD 5) (mTNot (mTru ((rVar 5 (rVar 1 rNil)).bind fun ars => callS (fun r => some (rvD r)) m_is_empty [.inl 0, .inl 1] (2 + 0) ars))) (mVar 5) (mItemsX (mVar 0)))) mNil)) (uComp d) = some (.ok ((sortP (ps.filter nE)).map pD) (uComp d)) :=
    mItemsX_ok (mB_ok (mCons_ok (mFz_ok (mComp_ok (mItemsX_ok rfl hd) ec)) rfl) (gSortP_p (ps.filter nE))) rfl
  refine mkF_rt (n := 2) (N := 6) (body := b_union) (args := [.d d, .d (.str sHalf)]) (r := .fr (.lst ((uni ps).map pD))) (ev := [some (.d d), some (.d (.str sHalf)), some (.own (.lst ((uni ps).map pD))), e3, e4, none]) rfl ?_
  have q1 : b_union_1 [some (.d d), some (.d (.str sHalf)), none, none, none, none] = some (.nx [some (.d d), some (.d (.str sHalf)), none, none, none, none]) := by simp [b_union_1, sExpr, mkF, up, sSeq, sIf, sE, mT, m2, mIxN, mNm, itemOf, M.bind, M.ret, M.opt, sSet, sOpt, setD, mB, mCons, mNil, mVar, sRetV, sRet, outs, outOf, mCall, rCons, rVar, rNil, mArV, callM, arsSV, arSV, slotsOf, putB, setCell, rvD, mBN, nmD, fz, mFz, mLst, mTup, mTru, mTruN, mTNot, mTOr, mTAnd, mIf, mOr, mAnd, mNot, dTru, m1, mSl, mPart, mNoPart, mM0, mM1, mComp, compL, inner, noCell, wipeE, restE, turnC, sFor, forL, turnL, mItems, itemsD, mItemsX, itemsX, mRng, sApp, lstAt, appAt, sAsg, gsTup, gsCons, gsNil, m2N, opAt, isSc, sRetF, sSetF, setO, mCallF, frC, mChain, hc]
  have q2 : b_union_2 [some (.d d), some (.d (.str sHalf)), none, none, none, none] = some (.nx [some (.d d), some (.d (.str sHalf)), none, none, none, none]) := by simp [b_union_2, sExpr, mkF, up, sSeq, sIf, sE, mT, m2, mIxN, mNm, itemOf, M.bind, M.ret, M.opt, sSet, sOpt, setD, mB, mCons, mNil, mVar, sRetV, sRet, outs, outOf, mCall, rCons, rVar, rNil, mArV, callM, arsSV, arSV, slotsOf, putB, setCell, rvD, mBN, nmD, fz, mFz, mLst, mTup, mTru, mTruN, mTNot, mTOr, mTAnd, mIf, mOr, mAnd, mNot, dTru, m1, mSl, mPart, mNoPart, mM0, mM1, mComp, compL, inner, noCell, wipeE, restE, turnC, sFor, forL, turnL, mItems, itemsD, mItemsX, itemsX, mRng, sApp, lstAt, appAt, sAsg, gsTup, gsCons, gsNil, m2N, opAt, isSc, sRetF, sSetF, setO, mCallF, frC, mChain, check_ends]
  have q3 : b_union_3 [some (.d d), some (.d (.str sHalf)), none, none, none, none] = some (.nx (uComp d)) := by simp [b_union_3, uComp, mkF, up, sSeq, sIf, sE, mT, m2, mIxN, mNm, itemOf, M.bind, M.ret, M.opt, sSet, sOpt, setD, mB, mCons, mNil, mVar, sRetV, sRet, outs, outOf, mCall, rCons, rVar, rNil, mArV, callM, arsSV, arSV, slotsOf, putB, setCell, rvD, mBN, nmD, fz, mFz, mLst, mTup, mTru, mTruN, mTNot, mTOr, mTAnd, mIf, mOr, mAnd, mNot, dTru, m1, mSl, mPart, mNoPart, mM0, mM1, mComp, compL, inner, noCell, wipeE, restE, turnC, sFor, forL, turnL, mItems, itemsD, mItemsX, itemsX, mRng, sApp, lstAt, appAt, sAsg, gsTup, gsCons, gsNil, m2N, opAt, isSc, sRetF, sSetF, setO, mCallF, frC, mChain, z0]
  exact (seq_nx q1).trans ((seq_nx q2).trans ((seq_nx q3).trans ((seq_nx (sFor_ok it e)).trans rfl)))
end Q
set_option Elab.async false
set_option linter.all false
set_option maxRecDepth 100000
set_option maxHeartbeats 1000000
namespace Q
open PySem
open PySem.Spec
open L2
open FL
theorem mul_i {a b : Int} (h1 : -(2 ^ 200) < a) (h2 : a < 2 ^ 200) (h3 : -(2 ^ 200) < b) (h4 : b < 2 ^ 200) : dMulI (.int a) (.int b) = some (.int (a * b)) := by
  have l1 := abs_log (n := 200) (by decide) h1 h2
  have l2 := abs_log (n := 200) (by decide) h3 h4
  have : mulOk a b := by unfold mulOk; omega
  simp only [dMulI, this, if_true]
theorem fdiv_i {a b : Int} (h1 : 0 < b) (h2 : b < 2 ^ 200) : dFdiv (.int a) (.int b) = some (.int (a / b)) := by
  have : fdivOk a b := ⟨by omega, Nat.lt_trans (log2_lt (i := b) (n := 200) (by omega) (by decide) (by omega)) (by decide)⟩
  simp only [dFdiv, this, if_true]
theorem mod_i {a b : Int} (h1 : 0 < b) : dMod (.int a) (.int b) = some (.int (a % b)) := by simp [dMod, h1]
def mn (a b : Int) : Int := if b < a then b else a
def ov (b e : Int) (p : Int × Int) : Int := mx 0 (mn e p.2 - mx b p.1)
def ovs (b e : Int) (rows : List (Int × Int)) : Int := (rows.map (ov b e)).sum
theorem held {rows : List (Int × Int)} {b e : Int} (hl : rows.length ≤ 1000) : m_held_between [.d (.lst (rows.map pD)), .d (.int b), .d (.int e)] = some (.ret (.d (.int (ovs b e rows))) [.d (.lst (rows.map pD)), .d (.int b), .d (.int e)]) := by
  obtain ⟨acc, ev', ec, rfl, ha⟩ := compL_inv (vs := [3, 4]) (gs := gsTup 2 (gsCons (setD 3) (gsCons (setD 4) gsNil))) (ct := M.ret true) (ce := mB gMax2 (mCons (M.ret (.int 0)) (mCons (m2 dSub (mB gMin2 (mCons (mVar 2) (mCons (mVar 4) mNil))) (mB gMax2 (mCons (mVar 1) (mCons (mVar 3) mNil)))) mNil)))
    (J := fun i acc ev => ev = [some (.d (.lst (rows.map pD))), some (.d (.int b)), some (.d (.int e)), none, none] ∧ acc = ((rows.take i).map (ov b e)).map D.int) (xs := rows.map pD) (i := 0) (acc := []) (ev := [some (.d (.lst (rows.map pD))), some (.d (.int b)), some (.d (.int e)), none, none]) ⟨rfl, rfl⟩ (fun k x acc ev hk hj => by
      obtain ⟨rfl, ha⟩ := hj
      obtain ⟨p, hpk, rfl⟩ := pD_at hk
      rw [Nat.zero_add] at ha ⊢
      have hk1 : k < rows.length := (List.getElem?_eq_some_iff.mp hpk).1
      refine ⟨some (.int (ov b e p)), [some (.d (.lst (rows.map pD))), some (.d (.int b)), some (.d (.int e)), none, none], ?_, ?_, rfl, ?_⟩
      · have h1 : gMin2 [.int e, .int p.2] = some (.int (mn e p.2)) := rfl
        have h2 : gMax2 [.int b, .int p.1] = some (.int (mx b p.1)) := rfl
        have h3 : gMax2 [.int 0, .int (mn e p.2 - mx b p.1)] = some (.int (ov b e p)) := rfl
        generalize rows.map pD = L
        simp [mkF, up, sSeq, sIf, sE, mT, m2, mIxN, mNm, itemOf, M.bind, M.ret, M.opt, sSet, sOpt, setD, mB, mCons, mNil, mVar, sRetV, sRet, outs, outOf, mCall, rCons, rVar, rNil, mArV, callM, arsSV, arSV, slotsOf, putB, setCell, rvD, mBN, nmD, fz, mFz, mLst, mTup, mTru, mTruN, mTNot, mTOr, mTAnd, mIf, mOr, mAnd, mNot, dTru, m1, mSl, mPart, mNoPart, mM0, mM1, mComp, compL, inner, noCell, wipeE, restE, turnC, sFor, forL, turnL, mItems, itemsD, mItemsX, itemsX, mRng, sApp, lstAt, appAt, sAsg, gsTup, gsCons, gsNil, m2N, opAt, isSc, sRetF, sSetF, setO, mCallF, frC, mChain, h1, h2, h3, dSub_i]
      · rw [ha, List.length_map, List.length_map, List.length_take, sizeLine_eq]
        omega
      · rw [take_step hpk, List.map_append, List.map_append, ha]
        rfl)
  have ha' : acc = (rows.map (ov b e)).map D.int := by
    have hz : 0 + (rows.map pD).length = rows.length := by simp
    rw [ha, hz, List.take_length]
  subst ha'
  refine mkF_rt (n := 3) (N := 5) (body := b_held_between) (args := [.d (.lst (rows.map pD)), .d (.int b), .d (.int e)]) (r := .d (.int (ovs b e rows))) (ev := [some (.d (.lst (rows.map pD))), some (.d (.int b)), some (.d (.int e)), none, none]) rfl ?_
  exact sRet_ok (mB_ok (mCons_ok (mFz_ok (mComp_ok (mItemsX_ok rfl rfl) ec)) rfl) (gSum_i _))
theorem overlap {rows : List (Int × Int)} {b e : Int} (hl : rows.length ≤ 1000) : m_law_overlap [.d (.lst (rows.map pD)), .d (.int b), .d (.int e)] = some (.ret (.d (.int (ovs b e rows))) [.d (.lst (rows.map pD)), .d (.int b), .d (.int e)]) := by
  obtain ⟨acc, ev', ec, rfl, ha⟩ := compL_inv (vs := [3, 4]) (gs := gsTup 2 (gsCons (setD 3) (gsCons (setD 4) gsNil))) (ct := M.ret true) (ce := mB gMax2 (mCons (M.ret (.int 0)) (mCons (m2 dSub (mB gMin2 (mCons (mB gInt1s (mCons (mVar 2) mNil)) (mCons (mB gInt1s (mCons (mVar 4) mNil)) mNil))) (mB gMax2 (mCons (mB gInt1s (mCons (mVar 1) mNil)) (mCons (mB gInt1s (mCons (mVar 3) mNil)) mNil)))) mNil)))
    (J := fun i acc ev => ev = [some (.d (.lst (rows.map pD))), some (.d (.int b)), some (.d (.int e)), none, none] ∧ acc = ((rows.take i).map (ov b e)).map D.int) (xs := rows.map pD) (i := 0) (acc := []) (ev := [some (.d (.lst (rows.map pD))), some (.d (.int b)), some (.d (.int e)), none, none]) ⟨rfl, rfl⟩ (fun k x acc ev hk hj => by
      obtain ⟨rfl, ha⟩ := hj
      obtain ⟨p, hpk, rfl⟩ := pD_at hk
      rw [Nat.zero_add] at ha ⊢
      have hk1 : k < rows.length := (List.getElem?_eq_some_iff.mp hpk).1
      refine ⟨some (.int (ov b e p)), [some (.d (.lst (rows.map pD))), some (.d (.int b)), some (.d (.int e)), none, none], ?_, ?_, rfl, ?_⟩
      · have h1 : gMin2 [.int e, .int p.2] = some (.int (mn e p.2)) := rfl
        have h2 : gMax2 [.int b, .int p.1] = some (.int (mx b p.1)) := rfl
        have h3 : gMax2 [.int 0, .int (mn e p.2 - mx b p.1)] = some (.int (ov b e p)) := rfl
        have h4 : ∀ i : Int, gInt1s [.int i] = some (.int i) := fun i => rfl
        generalize rows.map pD = L
        simp [mkF, up, sSeq, sIf, sE, mT, m2, mIxN, mNm, itemOf, M.bind, M.ret, M.opt, sSet, sOpt, setD, mB, mCons, mNil, mVar, sRetV, sRet, outs, outOf, mCall, rCons, rVar, rNil, mArV, callM, arsSV, arSV, slotsOf, putB, setCell, rvD, mBN, nmD, fz, mFz, mLst, mTup, mTru, mTruN, mTNot, mTOr, mTAnd, mIf, mOr, mAnd, mNot, dTru, m1, mSl, mPart, mNoPart, mM0, mM1, mComp, compL, inner, noCell, wipeE, restE, turnC, sFor, forL, turnL, mItems, itemsD, mItemsX, itemsX, mRng, sApp, lstAt, appAt, sAsg, gsTup, gsCons, gsNil, m2N, opAt, isSc, sRetF, sSetF, setO, mCallF, frC, mChain, h1, h2, h3, h4, dSub_i]
      · rw [ha, List.length_map, List.length_map, List.length_take, sizeLine_eq]
        omega
      · rw [take_step hpk, List.map_append, List.map_append, ha]
        rfl)
  have ha' : acc = (rows.map (ov b e)).map D.int := by
    have hz : 0 + (rows.map pD).length = rows.length := by simp
    rw [ha, hz, List.take_length]
  subst ha'
  refine mkF_rt (n := 3) (N := 5) (body := b_law_overlap) (args := [.d (.lst (rows.map pD)), .d (.int b), .d (.int e)]) (r := .d (.int (ovs b e rows))) (ev := [some (.d (.lst (rows.map pD))), some (.d (.int b)), some (.d (.int e)), none, none]) rfl ?_
  exact sRet_ok (mB_ok (mCons_ok (mFz_ok (mComp_ok (mItemsX_ok rfl rfl) ec)) rfl) (gSum_i _))
def chS (h wide : Int) : Str := if h = 0 then Str.ofString "." else if h = wide then Str.ofString "#" else Str.ofString "+"
theorem chS_len (h wide : Int) : (chS h wide).length = 1 := by
  unfold chS
  split
  · decide
  · split <;> decide
def cellS (rows : List (Int × Int)) (b wide : Int) (k : Nat) : Str := chS (ovs (b + (k : Int) * wide) (b + (k : Int) * wide + wide) rows) wide
def cellsS (rows : List (Int × Int)) (b wide : Int) (n : Nat) : Str := (List.range n).foldl (fun s k => s ++ cellS rows b wide k) (Str.ofString "")
theorem cells_succ (rows : List (Int × Int)) (b wide : Int) (n : Nat) : cellsS rows b wide (n + 1) = cellsS rows b wide n ++ cellS rows b wide n := by
  unfold cellsS
  rw [List.range_succ, List.foldl_append]
  rfl
theorem cells_len (rows : List (Int × Int)) (b wide : Int) : ∀ n, (cellsS rows b wide n).length = n
  | 0 => by
    show (Str.ofString "").length = 0
    decide
  | n + 1 => by
    rw [cells_succ, len_app, cells_len rows b wide n]
    unfold cellS
    rw [chS_len]
theorem ov_out {b e lo hi : Int} {p : Int × Int} (h1 : lo ≤ b) (h2 : e ≤ hi) (h : ¬ (p.1 < hi ∧ lo < p.2)) : ov b e p = 0 := by
  unfold ov mx mn
  split <;> split <;> split <;> omega
theorem ovs_filter {b e lo hi : Int} (h1 : lo ≤ b) (h2 : e ≤ hi) : ∀ (rows : List (Int × Int)), ovs b e (rows.filter fun p => decide (p.1 < hi) && decide (lo < p.2)) = ovs b e rows
  | [] => rfl
  | p :: r => by
    have ih := ovs_filter h1 h2 r
    unfold ovs at ih ⊢
    by_cases hp : p.1 < hi ∧ lo < p.2
    · rw [List.filter_cons_of_pos (by simpa using hp), List.map_cons, List.map_cons, List.sum_cons, List.sum_cons, ih]
    · rw [List.filter_cons_of_neg (by simpa using hp), ih, List.map_cons, List.sum_cons, ov_out h1 h2 hp]
      omega
end Q
set_option Elab.async false
set_option linter.all false
set_option maxRecDepth 100000
set_option maxHeartbeats 1000000
namespace Q
open PySem
open PySem.Spec
open L2
open FL
def fitB (c : D) (len : Int) : Bool := match c with
  | .int c => decide (1 ≤ c) && decide (c ≤ 120) && decide (len % c = 0)
  | _ => false
theorem check_cols {c : D} {len sh : Int} (h : plainD c = true) : m_Days_check_columns [.d (daysD len sh), .d c] = some (if fitB c len = true then .ret (.d .non) [.d (daysD len sh), .d c] else .raise ⟨"BadColumns", ["columns"], [c]⟩ [.d (daysD len sh), .d c]) := by
  have e := is_integer h
  cases c with
  | int c =>
    by_cases h1 : 1 ≤ c
    · by_cases h2 : c ≤ 120
      · have hm := mod_i (a := len) (b := c) (by omega)
        by_cases h3 : len % c = 0 <;> simp [m_Days_check_columns, b_Days_check_columns, mkF, up, sSeq, sIf, sE, mT, m2, mIxN, mNm, itemOf, M.bind, M.ret, M.opt, sSet, sOpt, setD, mB, mCons, mNil, mVar, sRetV, sRet, outs, outOf, mCall, rCons, rVar, rNil, mArV, callM, arsSV, arSV, slotsOf, putB, setCell, rvD, mBN, nmD, fz, mFz, mLst, mTup, mTru, mTruN, mTNot, mTOr, mTAnd, mIf, mOr, mAnd, mNot, dTru, m1, mSl, mPart, mNoPart, mM0, mM1, mComp, compL, inner, noCell, wipeE, restE, turnC, sFor, forL, turnL, mItems, itemsD, mItemsX, itemsX, mRng, sApp, lstAt, appAt, sAsg, gsTup, gsCons, gsNil, m2N, opAt, isSc, sRetF, sSetF, setO, mCallF, frC, mChain, isI, e, dLe_i, dNe_i, h1, h2, h3, hm, mFld, fldAt, insAt, daysD, fl_len, fitB, sRaise]
      · simp [m_Days_check_columns, b_Days_check_columns, mkF, up, sSeq, sIf, sE, mT, m2, mIxN, mNm, itemOf, M.bind, M.ret, M.opt, sSet, sOpt, setD, mB, mCons, mNil, mVar, sRetV, sRet, outs, outOf, mCall, rCons, rVar, rNil, mArV, callM, arsSV, arSV, slotsOf, putB, setCell, rvD, mBN, nmD, fz, mFz, mLst, mTup, mTru, mTruN, mTNot, mTOr, mTAnd, mIf, mOr, mAnd, mNot, dTru, m1, mSl, mPart, mNoPart, mM0, mM1, mComp, compL, inner, noCell, wipeE, restE, turnC, sFor, forL, turnL, mItems, itemsD, mItemsX, itemsX, mRng, sApp, lstAt, appAt, sAsg, gsTup, gsCons, gsNil, m2N, opAt, isSc, sRetF, sSetF, setO, mCallF, frC, mChain, isI, e, dLe_i, dNe_i, h1, h2, fitB, sRaise]
    · simp [m_Days_check_columns, b_Days_check_columns, mkF, up, sSeq, sIf, sE, mT, m2, mIxN, mNm, itemOf, M.bind, M.ret, M.opt, sSet, sOpt, setD, mB, mCons, mNil, mVar, sRetV, sRet, outs, outOf, mCall, rCons, rVar, rNil, mArV, callM, arsSV, arSV, slotsOf, putB, setCell, rvD, mBN, nmD, fz, mFz, mLst, mTup, mTru, mTruN, mTNot, mTOr, mTAnd, mIf, mOr, mAnd, mNot, dTru, m1, mSl, mPart, mNoPart, mM0, mM1, mComp, compL, inner, noCell, wipeE, restE, turnC, sFor, forL, turnL, mItems, itemsD, mItemsX, itemsX, mRng, sApp, lstAt, appAt, sAsg, gsTup, gsCons, gsNil, m2N, opAt, isSc, sRetF, sSetF, setO, mCallF, frC, mChain, isI, e, dLe_i, dNe_i, h1, fitB, sRaise]
  | ty n => cases h
  | cls n => cases h
  | ins C ks fs => cases h
  | _ => simp_all [m_Days_check_columns, b_Days_check_columns, mkF, up, sSeq, sIf, sE, mT, m2, mIxN, mNm, itemOf, M.bind, M.ret, M.opt, sSet, sOpt, setD, mB, mCons, mNil, mVar, sRetV, sRet, outs, outOf, mCall, rCons, rVar, rNil, mArV, callM, arsSV, arSV, slotsOf, putB, setCell, rvD, mBN, nmD, fz, mFz, mLst, mTup, mTru, mTruN, mTNot, mTOr, mTAnd, mIf, mOr, mAnd, mNot, dTru, m1, mSl, mPart, mNoPart, mM0, mM1, mComp, compL, inner, noCell, wipeE, restE, turnC, sFor, forL, turnL, mItems, itemsD, mItemsX, itemsX, mRng, sApp, lstAt, appAt, sAsg, gsTup, gsCons, gsNil, m2N, opAt, isSc, sRetF, sSetF, setO, mCallF, frC, mChain, isI, fitB, sRaise]
theorem is_fit {c : D} {len : Int} (h : plainD c = true) : m_law_is_fit [.d c, .d (.int len)] = some (.ret (.d (.bl (fitB c len))) [.d c, .d (.int len)]) := by
  have key : ∀ (t : String) (q : Bool), tyN c = some (.b t) → okIns ins c = true → lkT kt (.b t) (.b "int") = some q → ∀ q2, lkT kt (.b t) (.b "bool") = some q2 → (q && !q2) = false → fitB c len = false → m_law_is_fit [.d c, .d (.int len)] = some (.ret (.d (.bl (fitB c len))) [.d c, .d (.int len)]) := fun t q h1 h2 h3 q2 h4 h5 h6 => by
    have e1 : gIsi kt ins [c, .ty "int"] = some (.bl q) := isi_eq h1 h2 h3
    have e2 : gIsi kt ins [c, .ty "bool"] = some (.bl q2) := isi_eq h1 h2 h4
    rw [h6]
    cases q <;> cases q2 <;> simp_all [m_law_is_fit, b_law_is_fit, mkF, up, sSeq, sIf, sE, mT, m2, mIxN, mNm, itemOf, M.bind, M.ret, M.opt, sSet, sOpt, setD, mB, mCons, mNil, mVar, sRetV, sRet, outs, outOf, mCall, rCons, rVar, rNil, mArV, callM, arsSV, arSV, slotsOf, putB, setCell, rvD, mBN, nmD, fz, mFz, mLst, mTup, mTru, mTruN, mTNot, mTOr, mTAnd, mIf, mOr, mAnd, mNot, dTru, m1, mSl, mPart, mNoPart, mM0, mM1, mComp, compL, inner, noCell, wipeE, restE, turnC, sFor, forL, turnL, mItems, itemsD, mItemsX, itemsX, mRng, sApp, lstAt, appAt, sAsg, gsTup, gsCons, gsNil, m2N, opAt, isSc, sRetF, sSetF, setO, mCallF, frC, mChain]
  cases c with
  | non => exact key "NoneType" false rfl rfl (by decide +kernel) false (by decide +kernel) rfl rfl
  | bl b => exact key "bool" true rfl rfl (by decide +kernel) true (by decide +kernel) rfl rfl
  | int c =>
    have e1 : gIsi kt ins [.int c, .ty "int"] = some (.bl true) := isi_eq (t := "int") rfl rfl (by decide +kernel)
    have e2 : gIsi kt ins [.int c, .ty "bool"] = some (.bl false) := isi_eq (t := "int") rfl rfl (by decide +kernel)
    by_cases h1 : 1 ≤ c
    · by_cases h2 : c ≤ 120
      · have hm := mod_i (a := len) (b := c) (by omega)
        by_cases h3 : len % c = 0 <;> simp [m_law_is_fit, b_law_is_fit, mkF, up, sSeq, sIf, sE, mT, m2, mIxN, mNm, itemOf, M.bind, M.ret, M.opt, sSet, sOpt, setD, mB, mCons, mNil, mVar, sRetV, sRet, outs, outOf, mCall, rCons, rVar, rNil, mArV, callM, arsSV, arSV, slotsOf, putB, setCell, rvD, mBN, nmD, fz, mFz, mLst, mTup, mTru, mTruN, mTNot, mTOr, mTAnd, mIf, mOr, mAnd, mNot, dTru, m1, mSl, mPart, mNoPart, mM0, mM1, mComp, compL, inner, noCell, wipeE, restE, turnC, sFor, forL, turnL, mItems, itemsD, mItemsX, itemsX, mRng, sApp, lstAt, appAt, sAsg, gsTup, gsCons, gsNil, m2N, opAt, isSc, sRetF, sSetF, setO, mCallF, frC, mChain, e1, e2, dLe_i, dEq_i, h1, h2, h3, hm, fitB]
      · simp [m_law_is_fit, b_law_is_fit, mkF, up, sSeq, sIf, sE, mT, m2, mIxN, mNm, itemOf, M.bind, M.ret, M.opt, sSet, sOpt, setD, mB, mCons, mNil, mVar, sRetV, sRet, outs, outOf, mCall, rCons, rVar, rNil, mArV, callM, arsSV, arSV, slotsOf, putB, setCell, rvD, mBN, nmD, fz, mFz, mLst, mTup, mTru, mTruN, mTNot, mTOr, mTAnd, mIf, mOr, mAnd, mNot, dTru, m1, mSl, mPart, mNoPart, mM0, mM1, mComp, compL, inner, noCell, wipeE, restE, turnC, sFor, forL, turnL, mItems, itemsD, mItemsX, itemsX, mRng, sApp, lstAt, appAt, sAsg, gsTup, gsCons, gsNil, m2N, opAt, isSc, sRetF, sSetF, setO, mCallF, frC, mChain, e1, e2, dLe_i, dEq_i, h1, h2, fitB]
    · simp [m_law_is_fit, b_law_is_fit, mkF, up, sSeq, sIf, sE, mT, m2, mIxN, mNm, itemOf, M.bind, M.ret, M.opt, sSet, sOpt, setD, mB, mCons, mNil, mVar, sRetV, sRet, outs, outOf, mCall, rCons, rVar, rNil, mArV, callM, arsSV, arSV, slotsOf, putB, setCell, rvD, mBN, nmD, fz, mFz, mLst, mTup, mTru, mTruN, mTNot, mTOr, mTAnd, mIf, mOr, mAnd, mNot, dTru, m1, mSl, mPart, mNoPart, mM0, mM1, mComp, compL, inner, noCell, wipeE, restE, turnC, sFor, forL, turnL, mItems, itemsD, mItemsX, itemsX, mRng, sApp, lstAt, appAt, sAsg, gsTup, gsCons, gsNil, m2N, opAt, isSc, sRetF, sSetF, setO, mCallF, frC, mChain, e1, e2, dLe_i, dEq_i, h1, fitB]
  | str y => exact key "str" false rfl rfl (by decide +kernel) false (by decide +kernel) rfl rfl
  | tup xs => exact key "tuple" false rfl rfl (by decide +kernel) false (by decide +kernel) rfl rfl
  | lst xs => exact key "list" false rfl rfl (by decide +kernel) false (by decide +kernel) rfl rfl
  | _ => cases h
theorem bounds {len sh n : Int} (h1 : 1 ≤ len) (h2 : len ≤ 1000000) (hn1 : -(2 ^ 200) < n) (hn2 : n < 2 ^ 200) : m_Days_bounds [.d (daysD len sh), .d (.int n)] =
    some (if near (sh + n * len) = true then (if near (sh + n * len + len) = true then .ret (.d (.tup [.int (sh + n * len), .int (sh + n * len + len)])) [.d (daysD len sh), .d (.int n)] else .raise ⟨"TooFar", ["edge"], [.int (sh + n * len + len)]⟩ [.d (daysD len sh), .d (.int n)]) else .raise ⟨"TooFar", ["edge"], [.int (sh + n * len)]⟩ [.d (daysD len sh), .d (.int n)]) := by
  have f1 := mul_i (b := len) hn1 hn2 (by omega) (by omega)
  have s1 : dAdd (.int sh) (.int (n * len)) = some (.int (sh + n * len)) := rfl
  have s2 : dAdd (.int (sh + n * len)) (.int len) = some (.int (sh + n * len + len)) := rfl
  unfold daysD
  cases q1 : near (sh + n * len) with
  | false =>
    have e1 := edge_bad q1
    simp [m_Days_bounds, b_Days_bounds, mkF, up, sSeq, sIf, sE, mT, m2, mIxN, mNm, itemOf, M.bind, M.ret, M.opt, sSet, sOpt, setD, mB, mCons, mNil, mVar, sRetV, sRet, outs, outOf, mCall, rCons, rVar, rNil, mArV, callM, arsSV, arSV, slotsOf, putB, setCell, rvD, mBN, nmD, fz, mFz, mLst, mTup, mTru, mTruN, mTNot, mTOr, mTAnd, mIf, mOr, mAnd, mNot, dTru, m1, mSl, mPart, mNoPart, mM0, mM1, mComp, compL, inner, noCell, wipeE, restE, turnC, sFor, forL, turnL, mItems, itemsD, mItemsX, itemsX, mRng, sApp, lstAt, appAt, sAsg, gsTup, gsCons, gsNil, m2N, opAt, isSc, sRetF, sSetF, setO, mCallF, frC, mChain, z2, insAt, mFld, fldAt, fl_len, fl_off, f1, s1, s2, e1]
  | true =>
    have e1 := edge_ok q1
    cases q2 : near (sh + n * len + len) with
    | false =>
      have e2 := edge_bad q2
      simp [m_Days_bounds, b_Days_bounds, mkF, up, sSeq, sIf, sE, mT, m2, mIxN, mNm, itemOf, M.bind, M.ret, M.opt, sSet, sOpt, setD, mB, mCons, mNil, mVar, sRetV, sRet, outs, outOf, mCall, rCons, rVar, rNil, mArV, callM, arsSV, arSV, slotsOf, putB, setCell, rvD, mBN, nmD, fz, mFz, mLst, mTup, mTru, mTruN, mTNot, mTOr, mTAnd, mIf, mOr, mAnd, mNot, dTru, m1, mSl, mPart, mNoPart, mM0, mM1, mComp, compL, inner, noCell, wipeE, restE, turnC, sFor, forL, turnL, mItems, itemsD, mItemsX, itemsX, mRng, sApp, lstAt, appAt, sAsg, gsTup, gsCons, gsNil, m2N, opAt, isSc, sRetF, sSetF, setO, mCallF, frC, mChain, z2, insAt, mFld, fldAt, fl_len, fl_off, f1, s1, s2, e1, e2]
    | true =>
      have e2 := edge_ok q2
      simp [m_Days_bounds, b_Days_bounds, mkF, up, sSeq, sIf, sE, mT, m2, mIxN, mNm, itemOf, M.bind, M.ret, M.opt, sSet, sOpt, setD, mB, mCons, mNil, mVar, sRetV, sRet, outs, outOf, mCall, rCons, rVar, rNil, mArV, callM, arsSV, arSV, slotsOf, putB, setCell, rvD, mBN, nmD, fz, mFz, mLst, mTup, mTru, mTruN, mTNot, mTOr, mTAnd, mIf, mOr, mAnd, mNot, dTru, m1, mSl, mPart, mNoPart, mM0, mM1, mComp, compL, inner, noCell, wipeE, restE, turnC, sFor, forL, turnL, mItems, itemsD, mItemsX, itemsX, mRng, sApp, lstAt, appAt, sAsg, gsTup, gsCons, gsNil, m2N, opAt, isSc, sRetF, sSetF, setO, mCallF, frC, mChain, z2, insAt, mFld, fldAt, fl_len, fl_off, f1, s1, s2, e1, e2]
theorem hs_b : has "bounds" ["length", "offset"] = false := by decide +kernel
theorem hs_c : has "check_columns" ["length", "offset"] = false := by decide +kernel
theorem hs_d : has "drawn" ["length", "offset"] = false := by decide +kernel
theorem id2 : (ids 2 : List (Arg D)) = [.inl 0, .inl 1] := rfl
theorem wide_le {len c : Int} (hc : 1 ≤ c) (hd : len % c = 0) : c * (len / c) = len := by
  have := Int.emod_add_mul_ediv len c
  omega
theorem wide_b {len c : Int} (h1 : 1 ≤ len) (h2 : len ≤ 1000000) (hc : 1 ≤ c) : 0 ≤ len / c ∧ len / c ≤ 1000000 :=
  ⟨Int.ediv_nonneg (by omega) (by omega), Int.le_trans (Int.ediv_le_self _ (by omega)) h2⟩
theorem law_cells {rows : List (Int × Int)} {b len : Int} {n : Nat} (hl : rows.length ≤ 1000) (h1 : 1 ≤ len) (h2 : len ≤ 1000000) (hn1 : 1 ≤ n) (hn2 : n ≤ 120) : m_law_cells [.d (.lst (rows.map pD)), .d (.int b), .d (.int len), .d (.int (n : Int))] = some (.ret (.d (.str (cellsS rows b (len / (n : Int)) n))) [.d (.lst (rows.map pD)), .d (.int b), .d (.int len), .d (.int (n : Int))]) := by
  obtain ⟨w0, w1⟩ := wide_b (c := (n : Int)) h1 h2 (by omega)
  have hf := fdiv_i (a := len) (b := (n : Int)) (by omega) (by omega)
  generalize hL : rows.map pD = L
  generalize hw : len / (n : Int) = wide at *
  have hov : ∀ b e : Int, m_law_overlap [.d (.lst L), .d (.int b), .d (.int e)] = some (.ret (.d (.int (ovs b e rows))) [.d (.lst L), .d (.int b), .d (.int e)]) := fun b e => by
    rw [← hL]
    exact overlap hl
  obtain ⟨ev', e, e6, e7, rfl, _, _⟩ := forL_inv (gs := setD 6) (cb := sSeq (sSet 7 (mCall m_law_overlap [] (rVar 0 (rCons (m2 dAdd (mVar 1) (m2 dMulI (mVar 6) (mVar 4))) (rCons (m2 dAdd (mVar 1) (m2 dMulI (m2 dAdd (mVar 6) (M.ret (.int 1))) (mVar 4))) rNil))))) (sSet 5 (m2 dAdd (mVar 5) (mIf (mT (m2 dEq (mVar 7) (M.ret (.int 0)))) (M.ret (.str (Str.ofString "."))) (mIf (mT (m2 dEq (mVar 7) (mVar 4))) (M.ret (.str (Str.ofString "#"))) (M.ret (.str (Str.ofString "+"))))))))
    (J := fun i ev => ∃ e6 e7, ev = [some (.d (.lst L)), some (.d (.int b)), some (.d (.int len)), some (.d (.int (n : Int))), some (.d (.int wide)), some (.d (.str (cellsS rows b wide i))), e6, e7] ∧ Dt e6 ∧ Dt e7) (xs := (List.range n).map fun (i : Nat) => D.int (0 + (i : Int))) (i := 0) (ev := [some (.d (.lst L)), some (.d (.int b)), some (.d (.int len)), some (.d (.int (n : Int))), some (.d (.int wide)), some (.d (.str (Str.ofString ""))), none, none])
    ⟨none, none, rfl, .inl rfl, .inl rfl⟩ (fun k x ev hk hj => by
      obtain ⟨e6, e7, rfl, h6, h7⟩ := hj
      rw [Nat.zero_add]
      have hi : k < n := by
        have := (List.getElem?_eq_some_iff.mp hk).1
        simpa using this
      have hxx : x = .int (k : Int) := by
        rw [List.getElem?_map, List.getElem?_range hi] at hk
        have := Option.some.inj hk
        rw [← this]
        simp
      subst hxx
      have k1 := mul_i (a := (k : Int)) (b := wide) (by omega) (by omega) (by omega) (by omega)
      have k2 := mul_i (a := (k : Int) + 1) (b := wide) (by omega) (by omega) (by omega) (by omega)
      have hr : b + ((k : Int) + 1) * wide = b + (k : Int) * wide + wide := by
        rw [Int.add_mul, Int.one_mul, Int.add_assoc]
      have ho := hov (b + (k : Int) * wide) (b + (k : Int) * wide + wide)
      rw [← hr] at ho
      have hla : ∀ t : Str, t.length = 1 → dAdd (.str (cellsS rows b wide k)) (.str t) = some (.str (cellsS rows b wide k ++ t)) := fun t ht => dAdd_s (by rw [cells_len, ht, sizeLine_eq]; omega)
      have l1 := hla (Str.ofString ".") (by decide)
      have l2 := hla (Str.ofString "#") (by decide)
      have l3 := hla (Str.ofString "+") (by decide)
      have hcs := cells_succ rows b wide k
      unfold cellS at hcs
      rw [← hr] at hcs
      refine ⟨[some (.d (.lst L)), some (.d (.int b)), some (.d (.int len)), some (.d (.int (n : Int))), some (.d (.int wide)), some (.d (.str (cellsS rows b wide k))), some (.d (.int (k : Int))), e7], [some (.d (.lst L)), some (.d (.int b)), some (.d (.int len)), some (.d (.int (n : Int))), some (.d (.int wide)), some (.d (.str (cellsS rows b wide (k + 1)))), some (.d (.int (k : Int))), some (.d (.int (ovs (b + (k : Int) * wide) (b + ((k : Int) + 1) * wide) rows)))], ?_, .inl ?_, _, _, rfl, .inr ⟨_, rfl⟩, .inr ⟨_, rfl⟩⟩
      · rcases h6 with rfl | ⟨q1, rfl⟩ <;> rfl
      · rw [hcs]
        generalize hO : ovs (b + (k : Int) * wide) (b + ((k : Int) + 1) * wide) rows = O at *
        by_cases c1 : O = 0
        · have hch : chS O wide = Str.ofString "." := by simp [chS, c1]
          rw [hch]
          rcases h7 with rfl | ⟨q1, rfl⟩ <;> simp [mkF, up, sSeq, sIf, sE, mT, m2, mIxN, mNm, itemOf, M.bind, M.ret, M.opt, sSet, sOpt, setD, mB, mCons, mNil, mVar, sRetV, sRet, outs, outOf, mCall, rCons, rVar, rNil, mArV, callM, arsSV, arSV, slotsOf, putB, setCell, rvD, mBN, nmD, fz, mFz, mLst, mTup, mTru, mTruN, mTNot, mTOr, mTAnd, mIf, mOr, mAnd, mNot, dTru, m1, mSl, mPart, mNoPart, mM0, mM1, mComp, compL, inner, noCell, wipeE, restE, turnC, sFor, forL, turnL, mItems, itemsD, mItemsX, itemsX, mRng, sApp, lstAt, appAt, sAsg, gsTup, gsCons, gsNil, m2N, opAt, isSc, sRetF, sSetF, setO, mCallF, frC, mChain, k1, k2, dAdd_i, ho, dEq_i, c1, l1]
        · by_cases c2 : O = wide
          · have hch : chS O wide = Str.ofString "#" := by simp only [chS, if_neg c1, if_pos c2]
            have d1 : dEq (.int O) (.int 0) = some (.bl false) := by rw [dEq_i, decide_eq_false c1]
            have d2 : dEq (.int O) (.int wide) = some (.bl true) := by rw [dEq_i, decide_eq_true c2]
            rw [hch]
            rcases h7 with rfl | ⟨q1, rfl⟩ <;> simp [mkF, up, sSeq, sIf, sE, mT, m2, mIxN, mNm, itemOf, M.bind, M.ret, M.opt, sSet, sOpt, setD, mB, mCons, mNil, mVar, sRetV, sRet, outs, outOf, mCall, rCons, rVar, rNil, mArV, callM, arsSV, arSV, slotsOf, putB, setCell, rvD, mBN, nmD, fz, mFz, mLst, mTup, mTru, mTruN, mTNot, mTOr, mTAnd, mIf, mOr, mAnd, mNot, dTru, m1, mSl, mPart, mNoPart, mM0, mM1, mComp, compL, inner, noCell, wipeE, restE, turnC, sFor, forL, turnL, mItems, itemsD, mItemsX, itemsX, mRng, sApp, lstAt, appAt, sAsg, gsTup, gsCons, gsNil, m2N, opAt, isSc, sRetF, sSetF, setO, mCallF, frC, mChain, k1, k2, dAdd_i, ho, d1, d2, l2]
          · have hch : chS O wide = Str.ofString "+" := by simp only [chS, if_neg c1, if_neg c2]
            have d1 : dEq (.int O) (.int 0) = some (.bl false) := by rw [dEq_i, decide_eq_false c1]
            have d2 : dEq (.int O) (.int wide) = some (.bl false) := by rw [dEq_i, decide_eq_false c2]
            rw [hch]
            rcases h7 with rfl | ⟨q1, rfl⟩ <;> simp [mkF, up, sSeq, sIf, sE, mT, m2, mIxN, mNm, itemOf, M.bind, M.ret, M.opt, sSet, sOpt, setD, mB, mCons, mNil, mVar, sRetV, sRet, outs, outOf, mCall, rCons, rVar, rNil, mArV, callM, arsSV, arSV, slotsOf, putB, setCell, rvD, mBN, nmD, fz, mFz, mLst, mTup, mTru, mTruN, mTNot, mTOr, mTAnd, mIf, mOr, mAnd, mNot, dTru, m1, mSl, mPart, mNoPart, mM0, mM1, mComp, compL, inner, noCell, wipeE, restE, turnC, sFor, forL, turnL, mItems, itemsD, mItemsX, itemsX, mRng, sApp, lstAt, appAt, sAsg, gsTup, gsCons, gsNil, m2N, opAt, isSc, sRetF, sSetF, setO, mCallF, frC, mChain, k1, k2, dAdd_i, ho, d1, d2, l3])
  have it : mRng rng1 (mCons (mVar 3) mNil) [some (.d (.lst L)), some (.d (.int b)), some (.d (.int len)), some (.d (.int (n : Int))), some (.d (.int wide)), some (.d (.str (Str.ofString ""))), none, none] = some (.ok ((List.range n).map fun (i : Nat) => D.int (0 + (i : Int))) [some (.d (.lst L)), some (.d (.int b)), some (.d (.int len)), some (.d (.int (n : Int))), some (.d (.int wide)), some (.d (.str (Str.ofString ""))), none, none]) := mRng_ok (mCons_ok rfl rfl) (rng1_n (by omega))
  have hz : 0 + ((List.range n).map fun (i : Nat) => D.int (0 + (i : Int))).length = n := by simp
  rw [hz] at e
  refine mkF_rt (n := 4) (N := 8) (body := b_law_cells) (args := [.d (.lst L), .d (.int b), .d (.int len), .d (.int (n : Int))]) (r := .d (.str (cellsS rows b wide n))) (ev := [some (.d (.lst L)), some (.d (.int b)), some (.d (.int len)), some (.d (.int (n : Int))), some (.d (.int wide)), some (.d (.str (cellsS rows b wide n))), e6, e7]) rfl ?_
  have q1 : sPar 4 5 (mCons (m2 dFdiv (mVar 2) (mVar 3)) (mCons (M.ret (.str (Str.ofString ""))) mNil)) [some (.d (.lst L)), some (.d (.int b)), some (.d (.int len)), some (.d (.int (n : Int))), none, none, none, none] = some (.nx [some (.d (.lst L)), some (.d (.int b)), some (.d (.int len)), some (.d (.int (n : Int))), some (.d (.int wide)), some (.d (.str (Str.ofString ""))), none, none]) := by
    simp [mkF, up, sSeq, sIf, sE, mT, m2, mIxN, mNm, itemOf, M.bind, M.ret, M.opt, sSet, sOpt, setD, mB, mCons, mNil, mVar, sRetV, sRet, outs, outOf, mCall, rCons, rVar, rNil, mArV, callM, arsSV, arSV, slotsOf, putB, setCell, rvD, mBN, nmD, fz, mFz, mLst, mTup, mTru, mTruN, mTNot, mTOr, mTAnd, mIf, mOr, mAnd, mNot, dTru, m1, mSl, mPart, mNoPart, mM0, mM1, mComp, compL, inner, noCell, wipeE, restE, turnC, sFor, forL, turnL, mItems, itemsD, mItemsX, itemsX, mRng, sApp, lstAt, appAt, sAsg, gsTup, gsCons, gsNil, m2N, opAt, isSc, sRetF, sSetF, setO, mCallF, frC, mChain, sPar, hf]
  exact (seq_nx q1).trans ((seq_nx (sFor_ok it e)).trans rfl)
end Q
set_option Elab.async false
set_option linter.all false
set_option maxRecDepth 100000
set_option maxHeartbeats 1000000
namespace Q
open PySem
open PySem.Spec
open L2
open FL
theorem uni_len (ps : List (Int × Int)) : (uni ps).length ≤ ps.length := by
  have h1 := fold_len (sortP (ps.filter nE)) []
  have h2 := List.length_filter_le nE ps
  rw [sortP_len] at h1
  simp only [List.length_nil] at h1
  have h3 : (uni ps).length = (List.foldl step [] (sortP (ps.filter nE))).length := rfl
  omega
def dV (len sh : Int) (d : D) (num n b e : Int) (r6 r7 r8 r9 r10 r11 : Option SV) : Ev := [some (.d (daysD len sh)), some (.d d), some (.d (.int num)), some (.d (.int n)), some (.d (.int b)), some (.d (.int e)), r6, r7, r8, r9, r10, r11, none, none]
def inD (b e : Int) (p : Int × Int) : Bool := decide (p.1 < e) && decide (b < p.2)
theorem aug_s {s t : Str} (h : s.length + t.length ≤ sizeLine) : dAddIS (.str s) (.str t) = some (.str (s ++ t)) := by
  simp only [dAddIS, h, if_true]
def colB : MS := (sSeq (sSet 10 (m2 dAdd (mVar 4) (m2 dMulI (mVar 9) (mVar 7)))) (sSeq (sSet 11 (mCall m_held_between [] (rVar 6 (rVar 10 (rCons (m2 dAdd (mVar 10) (mVar 7)) rNil))))) (sIf (mT (m2 dEq (mVar 11) (M.ret (.int 0)))) (sAug 8 dAddIS (M.ret (.str (Str.ofString ".")))) (sAug 8 dAddIS (mIf (mT (m2 dEq (mVar 11) (mVar 7))) (M.ret (.str (Str.ofString "#"))) (M.ret (.str (Str.ofString "+"))))))))
theorem col1 {len sh : Int} {d : D} {num n b e wide : Int} {k : Nat} {rows : List (Int × Int)} {s : Str} {r10 r11 : Option SV} (hl : rows.length ≤ 1000) (hs : s.length ≤ 1000) (hk : k < 1000) (w0 : 0 ≤ wide) (w1 : wide ≤ 1000000) (h10 : Dt r10) (h11 : Dt r11) :
    ∃ x y, colB (dV len sh d num n b e (some (.d (.lst (rows.map pD)))) (some (.d (.int wide))) (some (.d (.str s))) (some (.d (.int (k : Int)))) r10 r11) =
      some (.nx (dV len sh d num n b e (some (.d (.lst (rows.map pD)))) (some (.d (.int wide))) (some (.d (.str (s ++ cellS rows b wide k)))) (some (.d (.int (k : Int)))) (some (.d x)) (some (.d y)))) := by
  have ho := held (rows := rows) (b := b + (k : Int) * wide) (e := b + (k : Int) * wide + wide) hl
  have k1 := mul_i (a := (k : Int)) (b := wide) (by omega) (by omega) (by omega) (by omega)
  have hla : ∀ t : Str, t.length = 1 → dAddIS (.str s) (.str t) = some (.str (s ++ t)) := fun t ht => aug_s (by rw [ht, sizeLine_eq]; omega)
  have l1 := hla (Str.ofString ".") (by decide)
  have l2 := hla (Str.ofString "#") (by decide)
  have l3 := hla (Str.ofString "+") (by decide)
  unfold cellS
  generalize ovs (b + (k : Int) * wide) (b + (k : Int) * wide + wide) rows = O at *
  generalize rows.map pD = L at *
  refine ⟨.int (b + (k : Int) * wide), .int O, ?_⟩
  unfold dV
  by_cases c1 : O = 0
  · have hch : chS O wide = Str.ofString "." := by simp [chS, c1]
    rw [hch]
    rcases h10 with rfl | ⟨q1, rfl⟩ <;> rcases h11 with rfl | ⟨q2, rfl⟩ <;> simp [colB, mkF, up, sSeq, sIf, sE, mT, m2, mIxN, mNm, itemOf, M.bind, M.ret, M.opt, sSet, sOpt, setD, mB, mCons, mNil, mVar, sRetV, sRet, outs, outOf, mCall, rCons, rVar, rNil, mArV, callM, arsSV, arSV, slotsOf, putB, setCell, rvD, mBN, nmD, fz, mFz, mLst, mTup, mTru, mTruN, mTNot, mTOr, mTAnd, mIf, mOr, mAnd, mNot, dTru, m1, mSl, mPart, mNoPart, mM0, mM1, mComp, compL, inner, noCell, wipeE, restE, turnC, sFor, forL, turnL, mItems, itemsD, mItemsX, itemsX, mRng, sApp, lstAt, appAt, sAsg, gsTup, gsCons, gsNil, m2N, opAt, isSc, sRetF, sSetF, setO, mCallF, frC, mChain, sAug, k1, dAdd_i, ho, dEq_i, c1, l1]
  · by_cases c2 : O = wide
    · have hch : chS O wide = Str.ofString "#" := by simp only [chS, if_neg c1, if_pos c2]
      have d1 : dEq (.int O) (.int 0) = some (.bl false) := by rw [dEq_i, decide_eq_false c1]
      have d2 : dEq (.int O) (.int wide) = some (.bl true) := by rw [dEq_i, decide_eq_true c2]
      rw [hch]
      rcases h10 with rfl | ⟨q1, rfl⟩ <;> rcases h11 with rfl | ⟨q2, rfl⟩ <;> simp [colB, mkF, up, sSeq, sIf, sE, mT, m2, mIxN, mNm, itemOf, M.bind, M.ret, M.opt, sSet, sOpt, setD, mB, mCons, mNil, mVar, sRetV, sRet, outs, outOf, mCall, rCons, rVar, rNil, mArV, callM, arsSV, arSV, slotsOf, putB, setCell, rvD, mBN, nmD, fz, mFz, mLst, mTup, mTru, mTruN, mTNot, mTOr, mTAnd, mIf, mOr, mAnd, mNot, dTru, m1, mSl, mPart, mNoPart, mM0, mM1, mComp, compL, inner, noCell, wipeE, restE, turnC, sFor, forL, turnL, mItems, itemsD, mItemsX, itemsX, mRng, sApp, lstAt, appAt, sAsg, gsTup, gsCons, gsNil, m2N, opAt, isSc, sRetF, sSetF, setO, mCallF, frC, mChain, sAug, k1, dAdd_i, ho, d1, d2, l2]
    · have hch : chS O wide = Str.ofString "+" := by simp only [chS, if_neg c1, if_neg c2]
      have d1 : dEq (.int O) (.int 0) = some (.bl false) := by rw [dEq_i, decide_eq_false c1]
      have d2 : dEq (.int O) (.int wide) = some (.bl false) := by rw [dEq_i, decide_eq_false c2]
      rw [hch]
      rcases h10 with rfl | ⟨q1, rfl⟩ <;> rcases h11 with rfl | ⟨q2, rfl⟩ <;> simp [colB, mkF, up, sSeq, sIf, sE, mT, m2, mIxN, mNm, itemOf, M.bind, M.ret, M.opt, sSet, sOpt, setD, mB, mCons, mNil, mVar, sRetV, sRet, outs, outOf, mCall, rCons, rVar, rNil, mArV, callM, arsSV, arSV, slotsOf, putB, setCell, rvD, mBN, nmD, fz, mFz, mLst, mTup, mTru, mTruN, mTNot, mTOr, mTAnd, mIf, mOr, mAnd, mNot, dTru, m1, mSl, mPart, mNoPart, mM0, mM1, mComp, compL, inner, noCell, wipeE, restE, turnC, sFor, forL, turnL, mItems, itemsD, mItemsX, itemsX, mRng, sApp, lstAt, appAt, sAsg, gsTup, gsCons, gsNil, m2N, opAt, isSc, sRetF, sSetF, setO, mCallF, frC, mChain, sAug, k1, dAdd_i, ho, d1, d2, l3]
theorem cell_filter {rows : List (Int × Int)} {b len : Int} {n k : Nat} (h1 : 1 ≤ len) (hn1 : 1 ≤ n) (hd : len % (n : Int) = 0) (hk : k < n) : cellS (rows.filter (inD b (b + len))) b (len / (n : Int)) k = cellS rows b (len / (n : Int)) k := by
  have hw := wide_le (len := len) (c := (n : Int)) (by omega) hd
  have w0 : 0 ≤ len / (n : Int) := Int.ediv_nonneg (by omega) (by omega)
  generalize len / (n : Int) = wide at *
  have e1 : 0 ≤ (k : Int) * wide := Int.mul_nonneg (by omega) w0
  have e2 : ((k : Int) + 1) * wide ≤ (n : Int) * wide := Int.mul_le_mul_of_nonneg_right (by omega) w0
  rw [Int.add_mul, Int.one_mul] at e2
  unfold cellS
  have := ovs_filter (b := b + (k : Int) * wide) (e := b + (k : Int) * wide + wide) (lo := b) (hi := b + len) (by omega) (by omega) rows
  show chS (ovs _ _ (rows.filter fun p => decide (p.1 < b + len) && decide (b < p.2))) wide = _
  rw [this]
theorem drawn_ok {d : D} {ps : List (Int × Int)} {len sh num : Int} {n : Nat} (hd : itemsX d = some (ps.map pD)) (hc : m_check_spans [.d d] = some (.ret (.d .non) [.d d])) (hp : ∀ p ∈ ps, p.1 ≤ p.2) (hl : ps.length < 900)
    (h1 : 1 ≤ len) (h2 : len ≤ 1000000) (hn1 : 1 ≤ n) (hn2 : n ≤ 120) (hm : len % (n : Int) = 0) (g1 : -(2 ^ 200) < num) (g2 : num < 2 ^ 200) (q1 : near (sh + num * len) = true) (q2 : near (sh + num * len + len) = true) :
    m_Days_drawn [.d (daysD len sh), .d d, .d (.int num), .d (.int (n : Int))] = some (.ret (.d (.str (cellsS (uni ps) (sh + num * len) (len / (n : Int)) n))) [.d (daysD len sh), .d d, .d (.int num), .d (.int (n : Int))]) := by
  have hf := fdiv_i (a := len) (b := (n : Int)) (by omega) (by omega)
  obtain ⟨w0, w1⟩ := wide_b (c := (n : Int)) h1 h2 (by omega)
  have hb := bounds (sh := sh) h1 h2 g1 g2
  rw [if_pos q1, if_pos q2] at hb
  have hfit : fitB (.int (n : Int)) len = true := by simp [fitB, hm]; omega
  have hcc := check_cols (c := .int (n : Int)) (len := len) (sh := sh) rfl
  rw [if_pos hfit] at hcc
  have hu := union_ hd hc hp hl
  have hul := uni_len ps
  generalize sh + num * len = b at *
  generalize hrows : uni ps = rows at *
  have s1 : b_Days_drawn_1 [some (.d (daysD len sh)), some (.d d), some (.d (.int num)), some (.d (.int (n : Int))), none, none, none, none, none, none, none, none, none, none] = some (.nx [some (.d (daysD len sh)), some (.d d), some (.d (.int num)), some (.d (.int (n : Int))), none, none, none, none, none, none, none, none, none, none]) := by
    simp [b_Days_drawn_1, mkF, up, sSeq, sIf, sE, mT, m2, mIxN, mNm, itemOf, M.bind, M.ret, M.opt, sSet, sOpt, setD, mB, mCons, mNil, mVar, sRetV, sRet, outs, outOf, mCall, rCons, rVar, rNil, mArV, callM, arsSV, arSV, slotsOf, putB, setCell, rvD, mBN, nmD, fz, mFz, mLst, mTup, mTru, mTruN, mTNot, mTOr, mTAnd, mIf, mOr, mAnd, mNot, dTru, m1, mSl, mPart, mNoPart, mM0, mM1, mComp, compL, inner, noCell, wipeE, restE, turnC, sFor, forL, turnL, mItems, itemsD, mItemsX, itemsX, mRng, sApp, lstAt, appAt, sAsg, gsTup, gsCons, gsNil, m2N, opAt, isSc, sRetF, sSetF, setO, mCallF, frC, mChain, sExpr, hc]
  have s2 : b_Days_drawn_2 [some (.d (daysD len sh)), some (.d d), some (.d (.int num)), some (.d (.int (n : Int))), none, none, none, none, none, none, none, none, none, none] = some (.nx [some (.d (daysD len sh)), some (.d d), some (.d (.int num)), some (.d (.int (n : Int))), none, none, none, none, none, none, none, none, none, none]) := by
    unfold daysD at hcc ⊢
    simp [b_Days_drawn_2, mkF, up, sSeq, sIf, sE, mT, m2, mIxN, mNm, itemOf, M.bind, M.ret, M.opt, sSet, sOpt, setD, mB, mCons, mNil, mVar, sRetV, sRet, outs, outOf, mCall, rCons, rVar, rNil, mArV, callM, arsSV, arSV, slotsOf, putB, setCell, rvD, mBN, nmD, fz, mFz, mLst, mTup, mTru, mTruN, mTNot, mTOr, mTAnd, mIf, mOr, mAnd, mNot, dTru, m1, mSl, mPart, mNoPart, mM0, mM1, mComp, compL, inner, noCell, wipeE, restE, turnC, sFor, forL, turnL, mItems, itemsD, mItemsX, itemsX, mRng, sApp, lstAt, appAt, sAsg, gsTup, gsCons, gsNil, m2N, opAt, isSc, sRetF, sSetF, setO, mCallF, frC, mChain, sExpr, mMeth, rowAt, insAt, hs_c, lkR, callS, arrA, arr, id2, hcc]
  have s3 : b_Days_drawn_3 [some (.d (daysD len sh)), some (.d d), some (.d (.int num)), some (.d (.int (n : Int))), none, none, none, none, none, none, none, none, none, none] = some (.nx (dV len sh d num (n : Int) b (b + len) none none none none none none)) := by
    unfold dV
    unfold daysD at hb ⊢
    simp [b_Days_drawn_3, mkF, up, sSeq, sIf, sE, mT, m2, mIxN, mNm, itemOf, M.bind, M.ret, M.opt, sSet, sOpt, setD, mB, mCons, mNil, mVar, sRetV, sRet, outs, outOf, mCall, rCons, rVar, rNil, mArV, callM, arsSV, arSV, slotsOf, putB, setCell, rvD, mBN, nmD, fz, mFz, mLst, mTup, mTru, mTruN, mTNot, mTOr, mTAnd, mIf, mOr, mAnd, mNot, dTru, m1, mSl, mPart, mNoPart, mM0, mM1, mComp, compL, inner, noCell, wipeE, restE, turnC, sFor, forL, turnL, mItems, itemsD, mItemsX, itemsX, mRng, sApp, lstAt, appAt, sAsg, gsTup, gsCons, gsNil, m2N, opAt, isSc, sRetF, sSetF, setO, mCallF, frC, mChain, mMeth, rowAt, insAt, hs_b, lkR, callS, arrA, arr, id2, hb]
  obtain ⟨acc, ev', ec, rfl, ha⟩ := compL_inv (vs := [12, 13]) (gs := gsTup 2 (gsCons (setD 12) (gsCons (setD 13) gsNil))) (ct := mTAnd (mT (m2 dLt (mVar 12) (mVar 5))) (mT (m2 dGt (mVar 13) (mVar 4)))) (ce := mTup (mCons (mVar 12) (mCons (mVar 13) mNil)))
    (J := fun i acc ev => ev = dV len sh d num (n : Int) b (b + len) none none none none none none ∧ acc = ((rows.take i).filter (inD b (b + len))).map pD) (xs := rows.map pD) (i := 0) (acc := []) (ev := dV len sh d num (n : Int) b (b + len) none none none none none none) ⟨rfl, rfl⟩ (fun k x acc ev hk hj => by
      obtain ⟨rfl, ha⟩ := hj
      obtain ⟨p, hpk, rfl⟩ := pD_at hk
      rw [Nat.zero_add] at ha ⊢
      have hle : acc.length < sizeLine := by
        rw [ha, List.length_map, sizeLine_eq]
        have h2 := List.length_filter_le (inD b (b + len)) (rows.take k)
        have h4 := List.length_take_le' k rows
        omega
      unfold dV
      by_cases c1 : p.1 < b + len
      · by_cases c2 : b < p.2
        · have hq : inD b (b + len) p = true := by simp [inD, c1, c2]
          refine ⟨some (.tup [.int p.1, .int p.2]), dV len sh d num (n : Int) b (b + len) none none none none none none, ?_, hle, rfl, ?_⟩
          · simp [dV, mkF, up, sSeq, sIf, sE, mT, m2, mIxN, mNm, itemOf, M.bind, M.ret, M.opt, sSet, sOpt, setD, mB, mCons, mNil, mVar, sRetV, sRet, outs, outOf, mCall, rCons, rVar, rNil, mArV, callM, arsSV, arSV, slotsOf, putB, setCell, rvD, mBN, nmD, fz, mFz, mLst, mTup, mTru, mTruN, mTNot, mTOr, mTAnd, mIf, mOr, mAnd, mNot, dTru, m1, mSl, mPart, mNoPart, mM0, mM1, mComp, compL, inner, noCell, wipeE, restE, turnC, sFor, forL, turnL, mItems, itemsD, mItemsX, itemsX, mRng, sApp, lstAt, appAt, sAsg, gsTup, gsCons, gsNil, m2N, opAt, isSc, sRetF, sSetF, setO, mCallF, frC, mChain, dLt_i, dGt_i, c1, c2, z2]
          · rw [take_step hpk, List.filter_append, ha]
            simp [hq, pD]
        · have hq : inD b (b + len) p = false := by simp [inD, c1, c2]
          refine ⟨none, dV len sh d num (n : Int) b (b + len) none none none none none none, ?_, rfl, ?_⟩
          · simp [dV, mkF, up, sSeq, sIf, sE, mT, m2, mIxN, mNm, itemOf, M.bind, M.ret, M.opt, sSet, sOpt, setD, mB, mCons, mNil, mVar, sRetV, sRet, outs, outOf, mCall, rCons, rVar, rNil, mArV, callM, arsSV, arSV, slotsOf, putB, setCell, rvD, mBN, nmD, fz, mFz, mLst, mTup, mTru, mTruN, mTNot, mTOr, mTAnd, mIf, mOr, mAnd, mNot, dTru, m1, mSl, mPart, mNoPart, mM0, mM1, mComp, compL, inner, noCell, wipeE, restE, turnC, sFor, forL, turnL, mItems, itemsD, mItemsX, itemsX, mRng, sApp, lstAt, appAt, sAsg, gsTup, gsCons, gsNil, m2N, opAt, isSc, sRetF, sSetF, setO, mCallF, frC, mChain, dLt_i, dGt_i, c1, c2]
          · rw [take_step hpk, List.filter_append, ha]
            simp [hq]
      · have hq : inD b (b + len) p = false := by simp [inD, c1]
        refine ⟨none, dV len sh d num (n : Int) b (b + len) none none none none none none, ?_, rfl, ?_⟩
        · simp [dV, mkF, up, sSeq, sIf, sE, mT, m2, mIxN, mNm, itemOf, M.bind, M.ret, M.opt, sSet, sOpt, setD, mB, mCons, mNil, mVar, sRetV, sRet, outs, outOf, mCall, rCons, rVar, rNil, mArV, callM, arsSV, arSV, slotsOf, putB, setCell, rvD, mBN, nmD, fz, mFz, mLst, mTup, mTru, mTruN, mTNot, mTOr, mTAnd, mIf, mOr, mAnd, mNot, dTru, m1, mSl, mPart, mNoPart, mM0, mM1, mComp, compL, inner, noCell, wipeE, restE, turnC, sFor, forL, turnL, mItems, itemsD, mItemsX, itemsX, mRng, sApp, lstAt, appAt, sAsg, gsTup, gsCons, gsNil, m2N, opAt, isSc, sRetF, sSetF, setO, mCallF, frC, mChain, dLt_i, dGt_i, c1]
        · rw [take_step hpk, List.filter_append, ha]
          simp [hq])
  have ha' : acc = (rows.filter (inD b (b + len))).map pD := by
    have hz : 0 + (rows.map pD).length = rows.length := by simp
    rw [ha, hz, List.take_length]
  subst ha'
  have hfl := List.length_filter_le (inD b (b + len)) rows
  have s4 : b_Days_drawn_4 (dV len sh d num (n : Int) b (b + len) none none none none none none) = some (.nx (dV len sh d num (n : Int) b (b + len) (some (.d (.lst ((rows.filter (inD b (b + len))).map pD)))) none none none none none)) := by
    have i1 : ((rVar 1 rNil).bind fun ars => callS (fun r => some (rvD r)) m_union [.inl 0, .inr (.str (Str.ofString "half"))] (1 + 0) ars) (dV len sh d num (n : Int) b (b + len) none none none none none none) = some (.ok (.lst (rows.map pD)) (dV len sh d num (n : Int) b (b + len) none none none none none none)) := by
      unfold sHalf at hu
      generalize rows.map pD = L at *
      unfold dV
      simp [mkF, up, sSeq, sIf, sE, mT, m2, mIxN, mNm, itemOf, M.bind, M.ret, M.opt, sSet, sOpt, setD, mB, mCons, mNil, mVar, sRetV, sRet, outs, outOf, mCall, rCons, rVar, rNil, mArV, callM, arsSV, arSV, slotsOf, putB, setCell, rvD, mBN, nmD, fz, mFz, mLst, mTup, mTru, mTruN, mTNot, mTOr, mTAnd, mIf, mOr, mAnd, mNot, dTru, m1, mSl, mPart, mNoPart, mM0, mM1, mComp, compL, inner, noCell, wipeE, restE, turnC, sFor, forL, turnL, mItems, itemsD, mItemsX, itemsX, mRng, sApp, lstAt, appAt, sAsg, gsTup, gsCons, gsNil, m2N, opAt, isSc, sRetF, sSetF, setO, mCallF, frC, mChain, callS, arrA, arr, hu]
    exact sSet_ok (mFz_ok (mComp_ok (mItemsX_ok i1 rfl) ec)) rfl
  have s5 : b_Days_drawn_5 (dV len sh d num (n : Int) b (b + len) (some (.d (.lst ((rows.filter (inD b (b + len))).map pD)))) none none none none none) = some (.nx (dV len sh d num (n : Int) b (b + len) (some (.d (.lst ((rows.filter (inD b (b + len))).map pD)))) (some (.d (.int (len / (n : Int))))) none none none none)) := by
    generalize (rows.filter (inD b (b + len))).map pD = L at *
    unfold dV daysD
    simp [b_Days_drawn_5, mkF, up, sSeq, sIf, sE, mT, m2, mIxN, mNm, itemOf, M.bind, M.ret, M.opt, sSet, sOpt, setD, mB, mCons, mNil, mVar, sRetV, sRet, outs, outOf, mCall, rCons, rVar, rNil, mArV, callM, arsSV, arSV, slotsOf, putB, setCell, rvD, mBN, nmD, fz, mFz, mLst, mTup, mTru, mTruN, mTNot, mTOr, mTAnd, mIf, mOr, mAnd, mNot, dTru, m1, mSl, mPart, mNoPart, mM0, mM1, mComp, compL, inner, noCell, wipeE, restE, turnC, sFor, forL, turnL, mItems, itemsD, mItemsX, itemsX, mRng, sApp, lstAt, appAt, sAsg, gsTup, gsCons, gsNil, m2N, opAt, isSc, sRetF, sSetF, setO, mCallF, frC, mChain, mFld, fldAt, insAt, fl_len, hf]
  have s6 : b_Days_drawn_6 (dV len sh d num (n : Int) b (b + len) (some (.d (.lst ((rows.filter (inD b (b + len))).map pD)))) (some (.d (.int (len / (n : Int))))) none none none none) = some (.nx (dV len sh d num (n : Int) b (b + len) (some (.d (.lst ((rows.filter (inD b (b + len))).map pD)))) (some (.d (.int (len / (n : Int))))) (some (.d (.str (Str.ofString "")))) none none none)) := rfl
  obtain ⟨ev', e, e9, e10, e11, rfl, _, _, _⟩ := forL_inv (gs := setD 9) (cb := colB)
    (J := fun i ev => ∃ e9 e10 e11, ev = dV len sh d num (n : Int) b (b + len) (some (.d (.lst ((rows.filter (inD b (b + len))).map pD)))) (some (.d (.int (len / (n : Int))))) (some (.d (.str (cellsS rows b (len / (n : Int)) i)))) e9 e10 e11 ∧ Dt e9 ∧ Dt e10 ∧ Dt e11) (xs := (List.range n).map fun (i : Nat) => D.int (0 + (i : Int))) (i := 0) (ev := dV len sh d num (n : Int) b (b + len) (some (.d (.lst ((rows.filter (inD b (b + len))).map pD)))) (some (.d (.int (len / (n : Int))))) (some (.d (.str (Str.ofString "")))) none none none)
    ⟨none, none, none, rfl, .inl rfl, .inl rfl, .inl rfl⟩ (fun k x ev hk hj => by
      obtain ⟨e9, e10, e11, rfl, h9, h10, h11⟩ := hj
      rw [Nat.zero_add]
      have hi : k < n := by
        have := (List.getElem?_eq_some_iff.mp hk).1
        simpa using this
      have hxx : x = .int (k : Int) := by
        rw [List.getElem?_map, List.getElem?_range hi] at hk
        have := Option.some.inj hk
        rw [← this]
        simp
      subst hxx
      obtain ⟨x, y, hq⟩ := col1 (len := len) (sh := sh) (d := d) (num := num) (n := (n : Int)) (b := b) (e := b + len) (wide := len / (n : Int)) (k := k) (rows := rows.filter (inD b (b + len))) (s := cellsS rows b (len / (n : Int)) k) (by omega) (by rw [cells_len]; omega) (by omega) w0 w1 h10 h11
      rw [cell_filter h1 hn1 hm hi, ← cells_succ] at hq
      refine ⟨_, _, ?_, .inl hq, _, _, _, rfl, .inr ⟨_, rfl⟩, .inr ⟨_, rfl⟩, .inr ⟨_, rfl⟩⟩
      rcases h9 with rfl | ⟨q1, rfl⟩ <;> rfl)
  have hz : 0 + ((List.range n).map fun (i : Nat) => D.int (0 + (i : Int))).length = n := by simp
  rw [hz] at e
  have it : mRng rng1 (mCons (mVar 3) mNil) (dV len sh d num (n : Int) b (b + len) (some (.d (.lst ((rows.filter (inD b (b + len))).map pD)))) (some (.d (.int (len / (n : Int))))) (some (.d (.str (Str.ofString "")))) none none none) = some (.ok ((List.range n).map fun (i : Nat) => D.int (0 + (i : Int))) (dV len sh d num (n : Int) b (b + len) (some (.d (.lst ((rows.filter (inD b (b + len))).map pD)))) (some (.d (.int (len / (n : Int))))) (some (.d (.str (Str.ofString "")))) none none none)) := mRng_ok (mCons_ok rfl rfl) (rng1_n (by omega))
  refine mkF_rt (n := 4) (N := 14) (body := b_Days_drawn) (args := [.d (daysD len sh), .d d, .d (.int num), .d (.int (n : Int))]) (r := .d (.str (cellsS rows b (len / (n : Int)) n))) (ev := dV len sh d num (n : Int) b (b + len) (some (.d (.lst ((rows.filter (inD b (b + len))).map pD)))) (some (.d (.int (len / (n : Int))))) (some (.d (.str (cellsS rows b (len / (n : Int)) n)))) e9 e10 e11) rfl ?_
  exact (seq_nx s1).trans ((seq_nx s2).trans ((seq_nx s3).trans ((seq_nx s4).trans ((seq_nx s5).trans ((seq_nx s6).trans ((seq_nx (sFor_ok it e)).trans rfl))))))
end Q
set_option Elab.async false
set_option linter.all false
set_option maxRecDepth 100000
set_option maxHeartbeats 1000000
namespace Q
open PySem
open PySem.Spec
open L2
open FL
def wItem : Str := Str.ofString "item"
def wCols : Str := Str.ofString "columns"
def wFar : Str := Str.ofString "far"
section
variable {d c : D} {len sh num : Int}
def dw (d c : D) (len sh num : Int) : List SV := [.d (daysD len sh), .d d, .d (.int num), .d c]
def dw0 (d c : D) (len sh num : Int) : Ev := [some (.d (daysD len sh)), some (.d d), some (.d (.int num)), some (.d c), none, none, none, none, none, none, none, none, none, none]
theorem drawn_item {e : Err} (hc : m_check_spans [.d d] = some (.raise e [.d d])) : m_Days_drawn (dw d c len sh num) = some (.raise e (dw d c len sh num)) := by
  have s1 : b_Days_drawn_1 (dw0 d c len sh num) = some (.er e (dw0 d c len sh num)) := by
    simp [dw0, b_Days_drawn_1, mkF, up, sSeq, sIf, sE, mT, m2, mIxN, mNm, itemOf, M.bind, M.ret, M.opt, sSet, sOpt, setD, mB, mCons, mNil, mVar, sRetV, sRet, outs, outOf, mCall, rCons, rVar, rNil, mArV, callM, arsSV, arSV, slotsOf, putB, setCell, rvD, mBN, nmD, fz, mFz, mLst, mTup, mTru, mTruN, mTNot, mTOr, mTAnd, mIf, mOr, mAnd, mNot, dTru, m1, mSl, mPart, mNoPart, mM0, mM1, mComp, compL, inner, noCell, wipeE, restE, turnC, sFor, forL, turnL, mItems, itemsD, mItemsX, itemsX, mRng, sApp, lstAt, appAt, sAsg, gsTup, gsCons, gsNil, m2N, opAt, isSc, sRetF, sSetF, setO, mCallF, frC, mChain, sExpr, hc]
  exact mkF_er (n := 4) (N := 14) (body := b_Days_drawn) (args := dw d c len sh num) (ev := dw0 d c len sh num) rfl (seq_er s1)
theorem drawn_s1 (hc : m_check_spans [.d d] = some (.ret (.d .non) [.d d])) : b_Days_drawn_1 (dw0 d c len sh num) = some (.nx (dw0 d c len sh num)) := by
  simp [dw0, b_Days_drawn_1, mkF, up, sSeq, sIf, sE, mT, m2, mIxN, mNm, itemOf, M.bind, M.ret, M.opt, sSet, sOpt, setD, mB, mCons, mNil, mVar, sRetV, sRet, outs, outOf, mCall, rCons, rVar, rNil, mArV, callM, arsSV, arSV, slotsOf, putB, setCell, rvD, mBN, nmD, fz, mFz, mLst, mTup, mTru, mTruN, mTNot, mTOr, mTAnd, mIf, mOr, mAnd, mNot, dTru, m1, mSl, mPart, mNoPart, mM0, mM1, mComp, compL, inner, noCell, wipeE, restE, turnC, sFor, forL, turnL, mItems, itemsD, mItemsX, itemsX, mRng, sApp, lstAt, appAt, sAsg, gsTup, gsCons, gsNil, m2N, opAt, isSc, sRetF, sSetF, setO, mCallF, frC, mChain, sExpr, hc]
theorem drawn_cols (hc : m_check_spans [.d d] = some (.ret (.d .non) [.d d])) (hp : plainD c = true) (hf : fitB c len = false) : m_Days_drawn (dw d c len sh num) = some (.raise ⟨"BadColumns", ["columns"], [c]⟩ (dw d c len sh num)) := by
  have hcc := check_cols (len := len) (sh := sh) hp
  rw [if_neg (by simp [hf])] at hcc
  have s2 : b_Days_drawn_2 (dw0 d c len sh num) = some (.er ⟨"BadColumns", ["columns"], [c]⟩ (dw0 d c len sh num)) := by
    unfold dw0
    unfold daysD at hcc ⊢
    simp [b_Days_drawn_2, mkF, up, sSeq, sIf, sE, mT, m2, mIxN, mNm, itemOf, M.bind, M.ret, M.opt, sSet, sOpt, setD, mB, mCons, mNil, mVar, sRetV, sRet, outs, outOf, mCall, rCons, rVar, rNil, mArV, callM, arsSV, arSV, slotsOf, putB, setCell, rvD, mBN, nmD, fz, mFz, mLst, mTup, mTru, mTruN, mTNot, mTOr, mTAnd, mIf, mOr, mAnd, mNot, dTru, m1, mSl, mPart, mNoPart, mM0, mM1, mComp, compL, inner, noCell, wipeE, restE, turnC, sFor, forL, turnL, mItems, itemsD, mItemsX, itemsX, mRng, sApp, lstAt, appAt, sAsg, gsTup, gsCons, gsNil, m2N, opAt, isSc, sRetF, sSetF, setO, mCallF, frC, mChain, sExpr, mMeth, rowAt, insAt, hs_c, lkR, callS, arrA, arr, id2, hcc]
  exact mkF_er (n := 4) (N := 14) (body := b_Days_drawn) (args := dw d c len sh num) (ev := dw0 d c len sh num) rfl ((seq_nx (drawn_s1 hc)).trans (seq_er s2))
theorem drawn_far {x : Int} (hc : m_check_spans [.d d] = some (.ret (.d .non) [.d d])) (hp : plainD c = true) (hf : fitB c len = true) (hb : m_Days_bounds [.d (daysD len sh), .d (.int num)] = some (.raise ⟨"TooFar", ["edge"], [.int x]⟩ [.d (daysD len sh), .d (.int num)])) : m_Days_drawn (dw d c len sh num) = some (.raise ⟨"TooFar", ["edge"], [.int x]⟩ (dw d c len sh num)) := by
  have hcc := check_cols (len := len) (sh := sh) hp
  rw [if_pos hf] at hcc
  have s2 : b_Days_drawn_2 (dw0 d c len sh num) = some (.nx (dw0 d c len sh num)) := by
    unfold dw0
    unfold daysD at hcc ⊢
    simp [b_Days_drawn_2, mkF, up, sSeq, sIf, sE, mT, m2, mIxN, mNm, itemOf, M.bind, M.ret, M.opt, sSet, sOpt, setD, mB, mCons, mNil, mVar, sRetV, sRet, outs, outOf, mCall, rCons, rVar, rNil, mArV, callM, arsSV, arSV, slotsOf, putB, setCell, rvD, mBN, nmD, fz, mFz, mLst, mTup, mTru, mTruN, mTNot, mTOr, mTAnd, mIf, mOr, mAnd, mNot, dTru, m1, mSl, mPart, mNoPart, mM0, mM1, mComp, compL, inner, noCell, wipeE, restE, turnC, sFor, forL, turnL, mItems, itemsD, mItemsX, itemsX, mRng, sApp, lstAt, appAt, sAsg, gsTup, gsCons, gsNil, m2N, opAt, isSc, sRetF, sSetF, setO, mCallF, frC, mChain, sExpr, mMeth, rowAt, insAt, hs_c, lkR, callS, arrA, arr, id2, hcc]
  have s3 : b_Days_drawn_3 (dw0 d c len sh num) = some (.er ⟨"TooFar", ["edge"], [.int x]⟩ (dw0 d c len sh num)) := by
    unfold dw0
    unfold daysD at hb ⊢
    simp [b_Days_drawn_3, mkF, up, sSeq, sIf, sE, mT, m2, mIxN, mNm, itemOf, M.bind, M.ret, M.opt, sSet, sOpt, setD, mB, mCons, mNil, mVar, sRetV, sRet, outs, outOf, mCall, rCons, rVar, rNil, mArV, callM, arsSV, arSV, slotsOf, putB, setCell, rvD, mBN, nmD, fz, mFz, mLst, mTup, mTru, mTruN, mTNot, mTOr, mTAnd, mIf, mOr, mAnd, mNot, dTru, m1, mSl, mPart, mNoPart, mM0, mM1, mComp, compL, inner, noCell, wipeE, restE, turnC, sFor, forL, turnL, mItems, itemsD, mItemsX, itemsX, mRng, sApp, lstAt, appAt, sAsg, gsTup, gsCons, gsNil, m2N, opAt, isSc, sRetF, sSetF, setO, mCallF, frC, mChain, mMeth, rowAt, insAt, hs_b, lkR, callS, arrA, arr, id2, hb]
  exact mkF_er (n := 4) (N := 14) (body := b_Days_drawn) (args := dw d c len sh num) (ev := dw0 d c len sh num) rfl ((seq_nx (drawn_s1 hc)).trans ((seq_nx s2).trans (seq_er s3)))
def c24 (c : D) : Prop := ∃ q, dEq c (.int 24) = some (.bl q) ∧ (q = true → c = .int 24)
theorem told_ret {X : D} (h24 : c24 c) (h : m_Days_drawn (dw d c len sh num) = some (.ret (.d X) (dw d c len sh num))) : m_law_told (dw d c len sh num) = some (.ret (.d X) (dw d c len sh num)) := by
  obtain ⟨q, e, hq⟩ := h24
  unfold dw daysD at h ⊢
  cases q with
  | true =>
    rw [hq rfl] at h e ⊢
    simp [m_law_told, b_law_told, mkF, up, sSeq, sIf, sE, mT, m2, mIxN, mNm, itemOf, M.bind, M.ret, M.opt, sSet, sOpt, setD, mB, mCons, mNil, mVar, sRetV, sRet, outs, outOf, mCall, rCons, rVar, rNil, mArV, callM, arsSV, arSV, slotsOf, putB, setCell, rvD, mBN, nmD, fz, mFz, mLst, mTup, mTru, mTruN, mTNot, mTOr, mTAnd, mIf, mOr, mAnd, mNot, dTru, m1, mSl, mPart, mNoPart, mM0, mM1, mComp, compL, inner, noCell, wipeE, restE, turnC, sFor, forL, turnL, mItems, itemsD, mItemsX, itemsX, mRng, sApp, lstAt, appAt, sAsg, gsTup, gsCons, gsNil, m2N, opAt, isSc, sRetF, sSetF, setO, mCallF, frC, mChain, sTryL, mMeth, rowAt, insAt, hs_d, lkR, callS, arrA, arr, h, e]
  | false => simp [m_law_told, b_law_told, mkF, up, sSeq, sIf, sE, mT, m2, mIxN, mNm, itemOf, M.bind, M.ret, M.opt, sSet, sOpt, setD, mB, mCons, mNil, mVar, sRetV, sRet, outs, outOf, mCall, rCons, rVar, rNil, mArV, callM, arsSV, arSV, slotsOf, putB, setCell, rvD, mBN, nmD, fz, mFz, mLst, mTup, mTru, mTruN, mTNot, mTOr, mTAnd, mIf, mOr, mAnd, mNot, dTru, m1, mSl, mPart, mNoPart, mM0, mM1, mComp, compL, inner, noCell, wipeE, restE, turnC, sFor, forL, turnL, mItems, itemsD, mItemsX, itemsX, mRng, sApp, lstAt, appAt, sAsg, gsTup, gsCons, gsNil, m2N, opAt, isSc, sRetF, sSetF, setO, mCallF, frC, mChain, sTryL, mMeth, rowAt, insAt, hs_d, lkR, callS, arrA, arr, h, e]
theorem fld1 {k : String} {x : D} : fld k [k] [x] = some x := by simp [fld]
theorem told_item {x : D} (h24 : c24 c) (h : m_Days_drawn (dw d c len sh num) = some (.raise ⟨"BadItem", ["index"], [x]⟩ (dw d c len sh num))) : m_law_told (dw d c len sh num) = some (.ret (.d (.tup [.str wItem, x])) (dw d c len sh num)) := by
  obtain ⟨q, e, hq⟩ := h24
  have x1 : lkX xt "BadItem" "BadItem" = some true := by decide +kernel
  have f1 : fld "index" ["index"] [x] = some x := fld1
  unfold wItem
  unfold dw daysD at h ⊢
  cases q with
  | true =>
    rw [hq rfl] at h e ⊢
    simp [m_law_told, b_law_told, mkF, up, sSeq, sIf, sE, mT, m2, mIxN, mNm, itemOf, M.bind, M.ret, M.opt, sSet, sOpt, setD, mB, mCons, mNil, mVar, sRetV, sRet, outs, outOf, mCall, rCons, rVar, rNil, mArV, callM, arsSV, arSV, slotsOf, putB, setCell, rvD, mBN, nmD, fz, mFz, mLst, mTup, mTru, mTruN, mTNot, mTOr, mTAnd, mIf, mOr, mAnd, mNot, dTru, m1, mSl, mPart, mNoPart, mM0, mM1, mComp, compL, inner, noCell, wipeE, restE, turnC, sFor, forL, turnL, mItems, itemsD, mItemsX, itemsX, mRng, sApp, lstAt, appAt, sAsg, gsTup, gsCons, gsNil, m2N, opAt, isSc, sRetF, sSetF, setO, mCallF, frC, mChain, sTryL, catchL, mMeth, rowAt, insAt, hs_d, lkR, callS, arrA, arr, h, e, x1, setN, mXf, mapN, f1, z2]
  | false => simp [m_law_told, b_law_told, mkF, up, sSeq, sIf, sE, mT, m2, mIxN, mNm, itemOf, M.bind, M.ret, M.opt, sSet, sOpt, setD, mB, mCons, mNil, mVar, sRetV, sRet, outs, outOf, mCall, rCons, rVar, rNil, mArV, callM, arsSV, arSV, slotsOf, putB, setCell, rvD, mBN, nmD, fz, mFz, mLst, mTup, mTru, mTruN, mTNot, mTOr, mTAnd, mIf, mOr, mAnd, mNot, dTru, m1, mSl, mPart, mNoPart, mM0, mM1, mComp, compL, inner, noCell, wipeE, restE, turnC, sFor, forL, turnL, mItems, itemsD, mItemsX, itemsX, mRng, sApp, lstAt, appAt, sAsg, gsTup, gsCons, gsNil, m2N, opAt, isSc, sRetF, sSetF, setO, mCallF, frC, mChain, sTryL, catchL, mMeth, rowAt, insAt, hs_d, lkR, callS, arrA, arr, h, e, x1, setN, mXf, mapN, f1, z2]
theorem told_cols {x : D} (h24 : c24 c) (h : m_Days_drawn (dw d c len sh num) = some (.raise ⟨"BadColumns", ["columns"], [x]⟩ (dw d c len sh num))) : m_law_told (dw d c len sh num) = some (.ret (.d (.tup [.str wCols, x])) (dw d c len sh num)) := by
  obtain ⟨q, e, hq⟩ := h24
  have x0 : lkX xt "BadColumns" "BadItem" = some false := by decide +kernel
  have x1 : lkX xt "BadColumns" "BadColumns" = some true := by decide +kernel
  have f1 : fld "columns" ["columns"] [x] = some x := fld1
  unfold wCols
  unfold dw daysD at h ⊢
  cases q with
  | true =>
    rw [hq rfl] at h e ⊢
    simp [m_law_told, b_law_told, mkF, up, sSeq, sIf, sE, mT, m2, mIxN, mNm, itemOf, M.bind, M.ret, M.opt, sSet, sOpt, setD, mB, mCons, mNil, mVar, sRetV, sRet, outs, outOf, mCall, rCons, rVar, rNil, mArV, callM, arsSV, arSV, slotsOf, putB, setCell, rvD, mBN, nmD, fz, mFz, mLst, mTup, mTru, mTruN, mTNot, mTOr, mTAnd, mIf, mOr, mAnd, mNot, dTru, m1, mSl, mPart, mNoPart, mM0, mM1, mComp, compL, inner, noCell, wipeE, restE, turnC, sFor, forL, turnL, mItems, itemsD, mItemsX, itemsX, mRng, sApp, lstAt, appAt, sAsg, gsTup, gsCons, gsNil, m2N, opAt, isSc, sRetF, sSetF, setO, mCallF, frC, mChain, sTryL, catchL, mMeth, rowAt, insAt, hs_d, lkR, callS, arrA, arr, h, e, x0, x1, setN, mXf, mapN, f1, z2]
  | false => simp [m_law_told, b_law_told, mkF, up, sSeq, sIf, sE, mT, m2, mIxN, mNm, itemOf, M.bind, M.ret, M.opt, sSet, sOpt, setD, mB, mCons, mNil, mVar, sRetV, sRet, outs, outOf, mCall, rCons, rVar, rNil, mArV, callM, arsSV, arSV, slotsOf, putB, setCell, rvD, mBN, nmD, fz, mFz, mLst, mTup, mTru, mTruN, mTNot, mTOr, mTAnd, mIf, mOr, mAnd, mNot, dTru, m1, mSl, mPart, mNoPart, mM0, mM1, mComp, compL, inner, noCell, wipeE, restE, turnC, sFor, forL, turnL, mItems, itemsD, mItemsX, itemsX, mRng, sApp, lstAt, appAt, sAsg, gsTup, gsCons, gsNil, m2N, opAt, isSc, sRetF, sSetF, setO, mCallF, frC, mChain, sTryL, catchL, mMeth, rowAt, insAt, hs_d, lkR, callS, arrA, arr, h, e, x0, x1, setN, mXf, mapN, f1, z2]
theorem told_far {x : D} (h24 : c24 c) (h : m_Days_drawn (dw d c len sh num) = some (.raise ⟨"TooFar", ["edge"], [x]⟩ (dw d c len sh num))) : m_law_told (dw d c len sh num) = some (.ret (.d (.tup [.str wFar, x])) (dw d c len sh num)) := by
  obtain ⟨q, e, hq⟩ := h24
  have x0 : lkX xt "TooFar" "BadItem" = some false := by decide +kernel
  have x2 : lkX xt "TooFar" "BadColumns" = some false := by decide +kernel
  have x1 : lkX xt "TooFar" "TooFar" = some true := by decide +kernel
  have f1 : fld "edge" ["edge"] [x] = some x := fld1
  unfold wFar
  unfold dw daysD at h ⊢
  cases q with
  | true =>
    rw [hq rfl] at h e ⊢
    simp [m_law_told, b_law_told, mkF, up, sSeq, sIf, sE, mT, m2, mIxN, mNm, itemOf, M.bind, M.ret, M.opt, sSet, sOpt, setD, mB, mCons, mNil, mVar, sRetV, sRet, outs, outOf, mCall, rCons, rVar, rNil, mArV, callM, arsSV, arSV, slotsOf, putB, setCell, rvD, mBN, nmD, fz, mFz, mLst, mTup, mTru, mTruN, mTNot, mTOr, mTAnd, mIf, mOr, mAnd, mNot, dTru, m1, mSl, mPart, mNoPart, mM0, mM1, mComp, compL, inner, noCell, wipeE, restE, turnC, sFor, forL, turnL, mItems, itemsD, mItemsX, itemsX, mRng, sApp, lstAt, appAt, sAsg, gsTup, gsCons, gsNil, m2N, opAt, isSc, sRetF, sSetF, setO, mCallF, frC, mChain, sTryL, catchL, mMeth, rowAt, insAt, hs_d, lkR, callS, arrA, arr, h, e, x0, x1, x2, setN, mXf, mapN, f1, z2]
  | false => simp [m_law_told, b_law_told, mkF, up, sSeq, sIf, sE, mT, m2, mIxN, mNm, itemOf, M.bind, M.ret, M.opt, sSet, sOpt, setD, mB, mCons, mNil, mVar, sRetV, sRet, outs, outOf, mCall, rCons, rVar, rNil, mArV, callM, arsSV, arSV, slotsOf, putB, setCell, rvD, mBN, nmD, fz, mFz, mLst, mTup, mTru, mTruN, mTNot, mTOr, mTAnd, mIf, mOr, mAnd, mNot, dTru, m1, mSl, mPart, mNoPart, mM0, mM1, mComp, compL, inner, noCell, wipeE, restE, turnC, sFor, forL, turnL, mItems, itemsD, mItemsX, itemsX, mRng, sApp, lstAt, appAt, sAsg, gsTup, gsCons, gsNil, m2N, opAt, isSc, sRetF, sSetF, setO, mCallF, frC, mChain, sTryL, catchL, mMeth, rowAt, insAt, hs_d, lkR, callS, arrA, arr, h, e, x0, x1, x2, setN, mXf, mapN, f1, z2]
end
section
variable {xs : List D} {c : D} {len sh num : Int}
def da (xs : List D) (c : D) (len sh num : Int) : List SV := [.d (.lst xs), .d (.int num), .d c, .d (.int len), .d (.int sh)]
def dE (xs : List D) (c : D) (len sh num : Int) (a b e : Option SV) : Ev := [some (.d (.lst xs)), some (.d (.int num)), some (.d c), some (.d (.int len)), some (.d (.int sh)), a, b, e]
def dueB : MS := (sIf (mTNot (mTru (mCall m_law_is_stretch [] (rCons (mIxN 0 (mVar 5)) rNil)))) (sRet (mTup (mCons (M.ret (.str (Str.ofString "item"))) (mCons (mVar 5) mNil)))) (fun ev => some (.nx ev)))
theorem due_turn {k : Nat} {y : D} {b e : Option SV} (hy : xs[k]? = some y) (ho : okT y) : dueB (dE xs c len sh num (some (.d (.int (k : Int)))) b e) = some (if strB y = true then .nx (dE xs c len sh num (some (.d (.int (k : Int)))) b e) else .rt (.d (.tup [.str wItem, .int (k : Int)])) (dE xs c len sh num (some (.d (.int (k : Int)))) b e)) := by
  have e1 := law_stretch ho
  have i1 := dIx_lst hy
  unfold wItem dE
  cases hs : strB y <;> rw [hs] at e1 <;> simp [dueB, mkF, up, sSeq, sIf, sE, mT, m2, mIxN, mNm, itemOf, M.bind, M.ret, M.opt, sSet, sOpt, setD, mB, mCons, mNil, mVar, sRetV, sRet, outs, outOf, mCall, rCons, rVar, rNil, mArV, callM, arsSV, arSV, slotsOf, putB, setCell, rvD, mBN, nmD, fz, mFz, mLst, mTup, mTru, mTruN, mTNot, mTOr, mTAnd, mIf, mOr, mAnd, mNot, dTru, m1, mSl, mPart, mNoPart, mM0, mM1, mComp, compL, inner, noCell, wipeE, restE, turnC, sFor, forL, turnL, mItems, itemsD, mItemsX, itemsX, mRng, sApp, lstAt, appAt, sAsg, gsTup, gsCons, gsNil, m2N, opAt, isSc, sRetF, sSetF, setO, mCallF, frC, mChain, i1, e1, z2]
theorem rng_len {a b e : Option SV} (hl : xs.length < 900) : mRng rng1 (mCons (mBN gLen 0) mNil) (dE xs c len sh num a b e) = some (.ok ((List.range xs.length).map fun (i : Nat) => D.int (0 + (i : Int))) (dE xs c len sh num a b e)) := by
  have a1 : mBN gLen 0 (dE xs c len sh num a b e) = some (.ok (.int (xs.length : Int)) (dE xs c len sh num a b e)) := by
    simp only [dE, mBN, nmD, List.getElem?_cons_zero, gLen_l, isSc_i, if_true]
  exact mRng_ok (mCons_ok a1 rfl) (rng1_n (by omega))
theorem rng_get {n k : Nat} {x : D} (h : ((List.range n).map fun (i : Nat) => D.int (0 + (i : Int)))[k]? = some x) : k < n ∧ x = .int (k : Int) := by
  have hi : k < n := by
    have := (List.getElem?_eq_some_iff.mp h).1
    simpa using this
  refine ⟨hi, ?_⟩
  rw [List.getElem?_map, List.getElem?_range hi] at h
  have := Option.some.inj h
  rw [← this]
  simp
theorem rng_at {n k : Nat} (h : k < n) : ((List.range n).map fun (i : Nat) => D.int (0 + (i : Int)))[k]? = some (.int (k : Int)) := by
  rw [List.getElem?_map, List.getElem?_range h]
  simp
theorem due_item {k : Nat} {y : D} (hl : xs.length < 900) (hT : ∀ x ∈ xs, okT x) (hy : xs[k]? = some y) (hs : strB y = false) (hb : ∀ j x, j < k → xs[j]? = some x → strB x = true) : m_law_due (da xs c len sh num) = some (.ret (.d (.tup [.str wItem, .int (k : Int)])) (da xs c len sh num)) := by
  have hk : k < xs.length := (List.getElem?_eq_some_iff.mp hy).1
  obtain ⟨o, e5, e1, rfl⟩ := forL_stop (gs := setD 5) (cb := dueB) (J := fun _ ev => ∃ a, ev = dE xs c len sh num a none none ∧ Dt a) (Q := fun o => ∃ a, o = .rt (.d (.tup [.str wItem, .int (k : Int)])) (dE xs c len sh num a none none)) (rng_at hk) (i := 0) (ev := dE xs c len sh num none none none) ⟨none, rfl, .inl rfl⟩ (fun j x ev hj hx hq => by
      obtain ⟨a, rfl, ha⟩ := hq
      obtain ⟨hj2, rfl⟩ := rng_get hx
      obtain ⟨z, hz⟩ : ∃ z, xs[j]? = some z := ⟨_, List.getElem?_eq_getElem hj2⟩
      have ht := due_turn (c := c) (len := len) (sh := sh) (num := num) (b := none) (e := none) hz (hT z (List.mem_of_getElem? hz))
      rw [if_pos (hb j z hj hz)] at ht
      refine ⟨dE xs c len sh num (some (.d (.int (j : Int)))) none none, _, ?_, .inl ht, _, rfl, .inr ⟨_, rfl⟩⟩
      rcases ha with rfl | ⟨q, rfl⟩ <;> rfl) (fun ev hq => by
      obtain ⟨a, rfl, ha⟩ := hq
      have ht := due_turn (c := c) (len := len) (sh := sh) (num := num) (b := none) (e := none) hy (hT y (List.mem_of_getElem? hy))
      rw [if_neg (by simp [hs])] at ht
      refine ⟨dE xs c len sh num (some (.d (.int (k : Int)))) none none, _, ?_, ht, turnL_rt, _, rfl⟩
      rcases ha with rfl | ⟨q, rfl⟩ <;> rfl)
  exact mkF_rt (n := 5) (N := 8) (body := b_law_due) (args := da xs c len sh num) (ev := dE xs c len sh num e1 none none) rfl (seq_rt (sFor_ok (rng_len hl) e5))
theorem due_1 (hl : xs.length < 900) (hT : ∀ x ∈ xs, okT x) (hb : ∀ x ∈ xs, strB x = true) : ∃ a, b_law_due_1 (dE xs c len sh num none none none) = some (.nx (dE xs c len sh num a none none)) := by
  obtain ⟨ev', e, a, rfl, _⟩ := forL_inv (gs := setD 5) (cb := dueB) (J := fun _ ev => ∃ a, ev = dE xs c len sh num a none none ∧ Dt a) (xs := (List.range xs.length).map fun (i : Nat) => D.int (0 + (i : Int))) (i := 0) (ev := dE xs c len sh num none none none) ⟨none, rfl, .inl rfl⟩ (fun j x ev hx hq => by
      obtain ⟨a, rfl, ha⟩ := hq
      obtain ⟨hj2, rfl⟩ := rng_get hx
      obtain ⟨z, hz⟩ : ∃ z, xs[j]? = some z := ⟨_, List.getElem?_eq_getElem hj2⟩
      have ht := due_turn (c := c) (len := len) (sh := sh) (num := num) (b := none) (e := none) hz (hT z (List.mem_of_getElem? hz))
      rw [if_pos (hb z (List.mem_of_getElem? hz))] at ht
      refine ⟨dE xs c len sh num (some (.d (.int (j : Int)))) none none, _, ?_, .inl ht, _, rfl, .inr ⟨_, rfl⟩⟩
      rcases ha with rfl | ⟨q, rfl⟩ <;> rfl)
  exact ⟨a, sFor_ok (rng_len hl) e⟩
theorem due_2 {a : Option SV} (hp : plainD c = true) : b_law_due_2 (dE xs c len sh num a none none) = some (if fitB c len = true then .nx (dE xs c len sh num a none none) else .rt (.d (.tup [.str wCols, c])) (dE xs c len sh num a none none)) := by
  have e := is_fit (len := len) hp
  unfold wCols dE
  cases hf : fitB c len <;> rw [hf] at e <;> simp [b_law_due_2, mkF, up, sSeq, sIf, sE, mT, m2, mIxN, mNm, itemOf, M.bind, M.ret, M.opt, sSet, sOpt, setD, mB, mCons, mNil, mVar, sRetV, sRet, outs, outOf, mCall, rCons, rVar, rNil, mArV, callM, arsSV, arSV, slotsOf, putB, setCell, rvD, mBN, nmD, fz, mFz, mLst, mTup, mTru, mTruN, mTNot, mTOr, mTAnd, mIf, mOr, mAnd, mNot, dTru, m1, mSl, mPart, mNoPart, mM0, mM1, mComp, compL, inner, noCell, wipeE, restE, turnC, sFor, forL, turnL, mItems, itemsD, mItemsX, itemsX, mRng, sApp, lstAt, appAt, sAsg, gsTup, gsCons, gsNil, m2N, opAt, isSc, sRetF, sSetF, setO, mCallF, frC, mChain, e, z2]
theorem due_3 {a : Option SV} (h1 : 1 ≤ len) (h2 : len ≤ 1000000) (hn1 : -(2 ^ 200) < num) (hn2 : num < 2 ^ 200) : b_law_due_3 (dE xs c len sh num a none none) = some (.nx (dE xs c len sh num a (some (.d (.int (sh + num * len)))) none)) := by
  have f1 := mul_i (b := len) hn1 hn2 (by omega) (by omega)
  simp [dE, b_law_due_3, mkF, up, sSeq, sIf, sE, mT, m2, mIxN, mNm, itemOf, M.bind, M.ret, M.opt, sSet, sOpt, setD, mB, mCons, mNil, mVar, sRetV, sRet, outs, outOf, mCall, rCons, rVar, rNil, mArV, callM, arsSV, arSV, slotsOf, putB, setCell, rvD, mBN, nmD, fz, mFz, mLst, mTup, mTru, mTruN, mTNot, mTOr, mTAnd, mIf, mOr, mAnd, mNot, dTru, m1, mSl, mPart, mNoPart, mM0, mM1, mComp, compL, inner, noCell, wipeE, restE, turnC, sFor, forL, turnL, mItems, itemsD, mItemsX, itemsX, mRng, sApp, lstAt, appAt, sAsg, gsTup, gsCons, gsNil, m2N, opAt, isSc, sRetF, sSetF, setO, mCallF, frC, mChain, f1, dAdd_i]
theorem due_4 {a : Option SV} {b : Int} : b_law_due_4 (dE xs c len sh num a (some (.d (.int b))) none) = some (if near b = true then (if near (b + len) = true then .nx (dE xs c len sh num a (some (.d (.int b))) (some (.d (.int (b + len))))) else .rt (.d (.tup [.str wFar, .int (b + len)])) (dE xs c len sh num a (some (.d (.int b))) (some (.d (.int (b + len)))))) else .rt (.d (.tup [.str wFar, .int b])) (dE xs c len sh num a (some (.d (.int b))) (some (.d (.int b))))) := by
  have e1 := law_near (i := b)
  have e2 := law_near (i := b + len)
  unfold wFar dE
  cases q1 : near b <;> rw [q1] at e1
  · simp [b_law_due_4, mkF, up, sSeq, sIf, sE, mT, m2, mIxN, mNm, itemOf, M.bind, M.ret, M.opt, sSet, sOpt, setD, mB, mCons, mNil, mVar, sRetV, sRet, outs, outOf, mCall, rCons, rVar, rNil, mArV, callM, arsSV, arSV, slotsOf, putB, setCell, rvD, mBN, nmD, fz, mFz, mLst, mTup, mTru, mTruN, mTNot, mTOr, mTAnd, mIf, mOr, mAnd, mNot, dTru, m1, mSl, mPart, mNoPart, mM0, mM1, mComp, compL, inner, noCell, wipeE, restE, turnC, sFor, forL, turnL, mItems, itemsD, mItemsX, itemsX, mRng, sApp, lstAt, appAt, sAsg, gsTup, gsCons, gsNil, m2N, opAt, isSc, sRetF, sSetF, setO, mCallF, frC, mChain, dAdd_i, e1, z2]
  · cases q2 : near (b + len) <;> rw [q2] at e2 <;> simp [b_law_due_4, mkF, up, sSeq, sIf, sE, mT, m2, mIxN, mNm, itemOf, M.bind, M.ret, M.opt, sSet, sOpt, setD, mB, mCons, mNil, mVar, sRetV, sRet, outs, outOf, mCall, rCons, rVar, rNil, mArV, callM, arsSV, arSV, slotsOf, putB, setCell, rvD, mBN, nmD, fz, mFz, mLst, mTup, mTru, mTruN, mTNot, mTOr, mTAnd, mIf, mOr, mAnd, mNot, dTru, m1, mSl, mPart, mNoPart, mM0, mM1, mComp, compL, inner, noCell, wipeE, restE, turnC, sFor, forL, turnL, mItems, itemsD, mItemsX, itemsX, mRng, sApp, lstAt, appAt, sAsg, gsTup, gsCons, gsNil, m2N, opAt, isSc, sRetF, sSetF, setO, mCallF, frC, mChain, dAdd_i, e1, e2, z2]
theorem due_5 {ps : List (Int × Int)} {n : Nat} {a e : Option SV} {b : Int} (hl : ps.length < 900) (h1 : 1 ≤ len) (h2 : len ≤ 1000000) (hn1 : 1 ≤ n) (hn2 : n ≤ 120) : b_law_due_5 (dE (ps.map pD) (.int (n : Int)) len sh num a (some (.d (.int b))) e) = some (.rt (.d (.str (cellsS (uni ps) b (len / (n : Int)) n))) (dE (ps.map pD) (.int (n : Int)) len sh num a (some (.d (.int b))) e)) := by
  have e1 := law_union hl
  have hul := uni_len ps
  have e2 := law_cells (rows := uni ps) (b := b) (len := len) (n := n) (by omega) h1 h2 hn1 hn2
  generalize ps.map pD = L at *
  generalize (uni ps).map pD = U at *
  simp [dE, b_law_due_5, mkF, up, sSeq, sIf, sE, mT, m2, mIxN, mNm, itemOf, M.bind, M.ret, M.opt, sSet, sOpt, setD, mB, mCons, mNil, mVar, sRetV, sRet, outs, outOf, mCall, rCons, rVar, rNil, mArV, callM, arsSV, arSV, slotsOf, putB, setCell, rvD, mBN, nmD, fz, mFz, mLst, mTup, mTru, mTruN, mTNot, mTOr, mTAnd, mIf, mOr, mAnd, mNot, dTru, m1, mSl, mPart, mNoPart, mM0, mM1, mComp, compL, inner, noCell, wipeE, restE, turnC, sFor, forL, turnL, mItems, itemsD, mItemsX, itemsX, mRng, sApp, lstAt, appAt, sAsg, gsTup, gsCons, gsNil, m2N, opAt, isSc, sRetF, sSetF, setO, mCallF, frC, mChain, e1, e2]
end
end Q
set_option Elab.async false
set_option linter.all false
set_option maxRecDepth 100000
set_option maxHeartbeats 1000000
namespace Q
open PySem
open PySem.Spec
open L2
open FL
theorem okS_tup2 {w : Str} {x : D} (h : okS 4 x = true) : okS 6 (.tup [.str w, x]) = true := by
  have := okS_up 4 x h
  unfold okS
  simp [oksS, this]
  rfl
theorem fit_int {c : D} {len : Int} (h : fitB c len = true) : ∃ n : Nat, c = .int (n : Int) ∧ 1 ≤ n ∧ n ≤ 120 ∧ len % (n : Int) = 0 := by
  cases c with
  | int i =>
    simp only [fitB, Bool.and_eq_true, decide_eq_true_eq] at h
    obtain ⟨⟨h1, h2⟩, h3⟩ := h
    refine ⟨i.toNat, ?_, by omega, by omega, ?_⟩
    · rw [Int.toNat_of_nonneg (by omega)]
    · rw [Int.toNat_of_nonneg (by omega)]
      exact h3
  | _ => cases h
theorem both {d c : D} {xs : List D} {len sh num : Int} (hd : d = .lst xs ∨ d = .tup xs) (hl : xs.length < 900) (hT : ∀ x ∈ xs, okT x) (hp : plainD c = true) (h24 : c24 c) (oc : okS 4 c = true)
    (h1 : 1 ≤ len) (h2 : len ≤ 1000000) (g1 : -(2 ^ 200) < num) (g2 : num < 2 ^ 200) :
    ∃ X, m_law_told (dw d c len sh num) = some (.ret (.d X) (dw d c len sh num)) ∧ m_law_due (da xs c len sh num) = some (.ret (.d X) (da xs c len sh num)) ∧ okS 6 X = true := by
  have hd1 : itemsD d = some xs := by rcases hd with rfl | rfl <;> rfl
  have hd2 : itemsX d = some xs := by rcases hd with rfl | rfl <;> rfl
  rcases first_bad xs with hb | ⟨k, y, hy, hs, hb⟩
  · have hc := check_ok hd1 fun x hx => ⟨hT x hx, hb x hx⟩
    obtain ⟨a, t1⟩ := due_1 (c := c) (len := len) (sh := sh) (num := num) hl hT hb
    have t2 := due_2 (xs := xs) (len := len) (sh := sh) (num := num) (a := a) hp
    cases hf : fitB c len with
    | false =>
      rw [if_neg (by simp [hf])] at t2
      refine ⟨.tup [.str wCols, c], told_cols h24 (drawn_cols hc hp hf), ?_, okS_tup2 oc⟩
      exact mkF_rt (n := 5) (N := 8) (body := b_law_due) (args := da xs c len sh num) (ev := dE xs c len sh num a none none) rfl ((seq_nx t1).trans (seq_rt t2))
    | true =>
      rw [if_pos hf] at t2
      have t3 := due_3 (xs := xs) (c := c) (sh := sh) (a := a) h1 h2 g1 g2
      have t4 := due_4 (xs := xs) (c := c) (len := len) (sh := sh) (num := num) (a := a) (b := sh + num * len)
      have hbo := bounds (sh := sh) h1 h2 g1 g2
      cases q1 : near (sh + num * len) with
      | false =>
        rw [if_neg (by simp [q1])] at t4 hbo
        refine ⟨.tup [.str wFar, .int (sh + num * len)], told_far h24 (drawn_far hc hp hf hbo), ?_, okS_tup2 rfl⟩
        exact mkF_rt (n := 5) (N := 8) (body := b_law_due) (args := da xs c len sh num) (ev := dE xs c len sh num a (some (.d (.int (sh + num * len)))) (some (.d (.int (sh + num * len))))) rfl ((seq_nx t1).trans ((seq_nx t2).trans ((seq_nx t3).trans (seq_rt t4))))
      | true =>
        rw [if_pos q1] at t4 hbo
        cases q2 : near (sh + num * len + len) with
        | false =>
          rw [if_neg (by simp [q2])] at t4 hbo
          refine ⟨.tup [.str wFar, .int (sh + num * len + len)], told_far h24 (drawn_far hc hp hf hbo), ?_, okS_tup2 rfl⟩
          exact mkF_rt (n := 5) (N := 8) (body := b_law_due) (args := da xs c len sh num) (ev := dE xs c len sh num a (some (.d (.int (sh + num * len)))) (some (.d (.int (sh + num * len + len))))) rfl ((seq_nx t1).trans ((seq_nx t2).trans ((seq_nx t3).trans (seq_rt t4))))
        | true =>
          rw [if_pos q2] at t4
          obtain ⟨ps, rfl, hps⟩ := all_pairs hb
          obtain ⟨n, rfl, n1, n2, hm⟩ := fit_int hf
          have hl' : ps.length < 900 := by simpa using hl
          refine ⟨.str (cellsS (uni ps) (sh + num * len) (len / (n : Int)) n), told_ret h24 (drawn_ok hd2 hc hps hl' h1 h2 n1 n2 hm g1 g2 q1 q2), ?_, rfl⟩
          exact mkF_rt (n := 5) (N := 8) (body := b_law_due) (args := da (ps.map pD) (.int (n : Int)) len sh num) (ev := dE (ps.map pD) (.int (n : Int)) len sh num a (some (.d (.int (sh + num * len)))) (some (.d (.int (sh + num * len + len))))) rfl ((seq_nx t1).trans ((seq_nx t2).trans ((seq_nx t3).trans ((seq_nx t4).trans (due_5 hl' h1 h2 n1 n2)))))
  · have hy2 : okT y := hT y (List.mem_of_getElem? hy)
    have hc := check_bad hd1 hy hy2 hs fun j x hj hx => ⟨hT x (List.mem_of_getElem? hx), hb j x hj hx⟩
    exact ⟨.tup [.str wItem, .int (k : Int)], told_item h24 (drawn_item hc), due_item hl hT hy hs hb, okS_tup2 rfl⟩
theorem lg {m : Int} (h0 : 0 < m) (h : m < 2 ^ 200) : m.natAbs.log2 < 9000 := Nat.lt_trans (log2_lt (n := 200) (by omega) (by decide) h) (by decide)
theorem of_i {n : Nat} {c : Cell} {xs : List Int} (h : Bc n c) (hn : n < 900000) (hx : xs ≠ []) (hl : xs.length ≤ 1000) : ∃ i c', m_law_of [.bor c, .d (.lst (xs.map D.int))] = some (.ret (.d (.int i)) [.bor c', .d (.lst (xs.map D.int))]) ∧ i ∈ xs ∧ Bc (n + 1) c' := by
  obtain ⟨x, c1, e1, hx1, b1⟩ := of_ (xs := xs.map D.int) h hn (by simpa using hx) (by simpa using hl)
  obtain ⟨i, hi, rfl⟩ := List.mem_map.mp hx1
  exact ⟨i, c1, e1, hi, b1⟩
theorem columns {n : Nat} {c : Cell} {len : Int} (h : Bc n c) (hn : n < 700000) : ∃ (k : Nat) (c' : Cell), m_law_columns [.bor c, .d (.int len)] = some (.ret (.d (.int (k : Int))) [.bor c', .d (.int len)]) ∧ 1 ≤ k ∧ k ≤ 120 ∧ len % (k : Int) = 0 ∧ Bc (n + 1) c' := by
  have it : mRng rng2 (mCons (M.ret (.int 1)) (mCons (M.ret (.int 121)) mNil)) [some (.bor c), some (.d (.int len)), none, none] = some (.ok ((List.range 120).map fun (k : Nat) => D.int (1 + (k : Int))) [some (.bor c), some (.d (.int len)), none, none]) := mRng_ok (mCons_ok rfl (mCons_ok rfl rfl)) rfl
  obtain ⟨acc, ev', ec, rfl, xs, rfl, hx, hlen, h1⟩ := compL_inv (vs := [3]) (gs := setD 3) (ct := mT (m2 dEq (m2 dMod (mVar 1) (mVar 3)) (M.ret (.int 0)))) (ce := mVar 3)
    (J := fun i acc ev => ev = [some (.bor c), some (.d (.int len)), none, none] ∧ ∃ xs : List Int, acc = xs.map D.int ∧ (∀ x ∈ xs, 1 ≤ x ∧ x ≤ 120 ∧ len % x = 0) ∧ xs.length ≤ i ∧ (1 ≤ i → xs ≠ [])) (xs := (List.range 120).map fun (k : Nat) => D.int (1 + (k : Int))) (i := 0) (acc := []) (ev := [some (.bor c), some (.d (.int len)), none, none]) ⟨rfl, [], rfl, (fun x hx => by cases hx), by simp, by omega⟩ (fun k x acc ev hk hj => by
      obtain ⟨rfl, xs, rfl, hx, hlen, h1⟩ := hj
      rw [Nat.zero_add] at *
      have hi : k < 120 := by
        have := (List.getElem?_eq_some_iff.mp hk).1
        simpa using this
      have hxx : x = .int (1 + (k : Int)) := by
        rw [List.getElem?_map, List.getElem?_range hi] at hk
        exact (Option.some.inj hk).symm
      subst hxx
      have km := mod_i (a := len) (b := 1 + (k : Int)) (by omega)
      by_cases hm : len % (1 + (k : Int)) = 0
      · refine ⟨some (.int (1 + (k : Int))), [some (.bor c), some (.d (.int len)), none, none], ?_, by rw [List.length_map, sizeLine_eq]; omega, rfl, xs ++ [1 + (k : Int)], by simp, ?_, by simp; omega, by simp⟩
        · simp [mkF, up, sSeq, sIf, sE, mT, m2, mIxN, mNm, itemOf, M.bind, M.ret, M.opt, sSet, sOpt, setD, mB, mCons, mNil, mVar, sRetV, sRet, outs, outOf, mCall, rCons, rVar, rNil, mArV, callM, arsSV, arSV, slotsOf, putB, setCell, rvD, mBN, nmD, fz, mFz, mLst, mTup, mTru, mTruN, mTNot, mTOr, mTAnd, mIf, mOr, mAnd, mNot, dTru, m1, mSl, mPart, mNoPart, mM0, mM1, mComp, compL, inner, noCell, wipeE, restE, turnC, sFor, forL, turnL, mItems, itemsD, mItemsX, itemsX, mRng, sApp, lstAt, appAt, sAsg, gsTup, gsCons, gsNil, m2N, opAt, isSc, sRetF, sSetF, setO, mCallF, frC, mChain, km, dEq_i, hm]
        · intro y hy
          rcases List.mem_append.mp hy with hy | hy
          · exact hx y hy
          · rw [List.mem_singleton.mp hy]
            exact ⟨by omega, by omega, hm⟩
      · refine ⟨none, [some (.bor c), some (.d (.int len)), none, none], ?_, rfl, xs, rfl, hx, by omega, fun hk1 => ?_⟩
        · simp [mkF, up, sSeq, sIf, sE, mT, m2, mIxN, mNm, itemOf, M.bind, M.ret, M.opt, sSet, sOpt, setD, mB, mCons, mNil, mVar, sRetV, sRet, outs, outOf, mCall, rCons, rVar, rNil, mArV, callM, arsSV, arSV, slotsOf, putB, setCell, rvD, mBN, nmD, fz, mFz, mLst, mTup, mTru, mTruN, mTNot, mTOr, mTAnd, mIf, mOr, mAnd, mNot, dTru, m1, mSl, mPart, mNoPart, mM0, mM1, mComp, compL, inner, noCell, wipeE, restE, turnC, sFor, forL, turnL, mItems, itemsD, mItemsX, itemsX, mRng, sApp, lstAt, appAt, sAsg, gsTup, gsCons, gsNil, m2N, opAt, isSc, sRetF, sSetF, setO, mCallF, frC, mChain, km, dEq_i, hm]
        · by_cases hk0 : k = 0
          · subst hk0
            exact absurd (Int.emod_one len) hm
          · exact h1 (by omega))
  obtain ⟨i, c1, e1, hi, b1⟩ := of_i h (by omega) (h1 (by simp)) (by simp at hlen; omega)
  obtain ⟨i1, i2, i3⟩ := hx i hi
  refine ⟨i.toNat, c1, ?_, by omega, by omega, by rw [Int.toNat_of_nonneg (by omega)]; exact i3, b1⟩
  rw [Int.toNat_of_nonneg (by omega)]
  have q1 : sSet 2 (mFz (mComp [3] (setD 3) (mT (m2 dEq (m2 dMod (mVar 1) (mVar 3)) (M.ret (.int 0)))) (mVar 3) (mRng rng2 (mCons (M.ret (.int 1)) (mCons (M.ret (.int 121)) mNil))))) [some (.bor c), some (.d (.int len)), none, none] = some (.nx [some (.bor c), some (.d (.int len)), some (.d (.lst (xs.map D.int))), none]) :=
    sSet_ok (mFz_ok (mComp_ok it ec)) rfl
  refine mkF_rt (n := 2) (N := 4) (body := b_law_columns) (args := [.bor c, .d (.int len)]) (ev := [some (.bor c1), some (.d (.int len)), some (.d (.lst (xs.map D.int))), none]) rfl ((seq_nx q1).trans ?_)
  generalize xs.map D.int = L at *
  simp [mkF, up, sSeq, sIf, sE, mT, m2, mIxN, mNm, itemOf, M.bind, M.ret, M.opt, sSet, sOpt, setD, mB, mCons, mNil, mVar, sRetV, sRet, outs, outOf, mCall, rCons, rVar, rNil, mArV, callM, arsSV, arSV, slotsOf, putB, setCell, rvD, mBN, nmD, fz, mFz, mLst, mTup, mTru, mTruN, mTNot, mTOr, mTAnd, mIf, mOr, mAnd, mNot, dTru, m1, mSl, mPart, mNoPart, mM0, mM1, mComp, compL, inner, noCell, wipeE, restE, turnC, sFor, forL, turnL, mItems, itemsD, mItemsX, itemsX, mRng, sApp, lstAt, appAt, sAsg, gsTup, gsCons, gsNil, m2N, opAt, isSc, sRetF, sSetF, setO, mCallF, frC, mChain, e1]
theorem ended {n : Nat} {c : Cell} {len sh : Int} (h : Bc n c) (hn : n < 700000) (h1 : 1 ≤ len) (h2 : len ≤ 1000000) : ∃ b e c', m_law_ended [.bor c, .d (.int len), .d (.int sh)] = some (.ret (.d (.tup [.int b, .int e])) [.bor c', .d (.int len), .d (.int sh)]) ∧ Bc (n + 11) c' := by
  obtain ⟨v1, c1, e1, a1, a2, b1⟩ := take (many := 9) h (by omega) (by decide) (by decide +kernel)
  have k1 := mul_i (a := v1 - 4) (b := len) (by omega) (by omega) (by omega) (by omega)
  have s1 : b_law_ended_1 [some (.bor c), some (.d (.int len)), some (.d (.int sh)), none, none, none] = some (.nx [some (.bor c1), some (.d (.int len)), some (.d (.int sh)), some (.d (.int (sh + (v1 - 4) * len))), none, none]) := by simp [b_law_ended_1, mkF, up, sSeq, sIf, sE, mT, m2, mIxN, mNm, itemOf, M.bind, M.ret, M.opt, sSet, sOpt, setD, mB, mCons, mNil, mVar, sRetV, sRet, outs, outOf, mCall, rCons, rVar, rNil, mArV, callM, arsSV, arSV, slotsOf, putB, setCell, rvD, mBN, nmD, fz, mFz, mLst, mTup, mTru, mTruN, mTNot, mTOr, mTAnd, mIf, mOr, mAnd, mNot, dTru, m1, mSl, mPart, mNoPart, mM0, mM1, mComp, compL, inner, noCell, wipeE, restE, turnC, sFor, forL, turnL, mItems, itemsD, mItemsX, itemsX, mRng, sApp, lstAt, appAt, sAsg, gsTup, gsCons, gsNil, m2N, opAt, isSc, sRetF, sSetF, setO, mCallF, frC, mChain, e1, dSub_i, dAdd_i, k1]
  generalize sh + (v1 - 4) * len = st at *
  obtain ⟨v2, c2, e2, _, _, b2⟩ := take (many := len) b1 (by omega) (by omega) (lg (by omega) (by omega))
  obtain ⟨v3, c3, e3, _, _, b3⟩ := number b2 (by omega)
  obtain ⟨v4, c4, e4, _, _, b4⟩ := take (many := 5) b3 (by omega) (by decide) (by decide +kernel)
  obtain ⟨b, c5, e5, _, b5⟩ := of_i (xs := [st, st + v2, st - 1, v3, 1000000000000000000000000000000 - v4, -1000000000000000000000000000000]) b4 (by omega) (by simp) (by simp)
  simp only [List.map_cons, List.map_nil] at e5
  have z6 : (6 : Nat) ≤ sizeLine := by decide
  have z7 : (7 : Nat) ≤ sizeLine := by decide
  have s2 : b_law_ended_2 [some (.bor c1), some (.d (.int len)), some (.d (.int sh)), some (.d (.int st)), none, none] = some (.nx [some (.bor c5), some (.d (.int len)), some (.d (.int sh)), some (.d (.int st)), some (.d (.int b)), none]) := by simp [b_law_ended_2, mkF, up, sSeq, sIf, sE, mT, m2, mIxN, mNm, itemOf, M.bind, M.ret, M.opt, sSet, sOpt, setD, mB, mCons, mNil, mVar, sRetV, sRet, outs, outOf, mCall, rCons, rVar, rNil, mArV, callM, arsSV, arSV, slotsOf, putB, setCell, rvD, mBN, nmD, fz, mFz, mLst, mTup, mTru, mTruN, mTNot, mTOr, mTAnd, mIf, mOr, mAnd, mNot, dTru, m1, mSl, mPart, mNoPart, mM0, mM1, mComp, compL, inner, noCell, wipeE, restE, turnC, sFor, forL, turnL, mItems, itemsD, mItemsX, itemsX, mRng, sApp, lstAt, appAt, sAsg, gsTup, gsCons, gsNil, m2N, opAt, isSc, sRetF, sSetF, setO, mCallF, frC, mChain, e2, e3, e4, e5, dSub_i, dAdd_i, dNeg_i, p30, z6]
  have k2 := mul_i (a := 2) (b := len) (by omega) (by omega) (by omega) (by omega)
  have k3 := mul_i (a := 3) (b := len) (by omega) (by omega) (by omega) (by omega)
  have k5 := mul_i (a := 5) (b := len) (by omega) (by omega) (by omega) (by omega)
  obtain ⟨v6, c6, e6, _, _, b6⟩ := take (many := 3 * len + 2) b5 (by omega) (by omega) (lg (by omega) (by omega))
  obtain ⟨l, c7, e7, _, b7⟩ := of_i (xs := [0, 1, len, 2 * len, v6, len - 1, 5 * len + 1]) b6 (by omega) (by simp) (by simp)
  simp only [List.map_cons, List.map_nil] at e7
  have s3 : b_law_ended_3 [some (.bor c5), some (.d (.int len)), some (.d (.int sh)), some (.d (.int st)), some (.d (.int b)), none] = some (.nx [some (.bor c7), some (.d (.int len)), some (.d (.int sh)), some (.d (.int st)), some (.d (.int b)), some (.d (.int l))]) := by simp [b_law_ended_3, mkF, up, sSeq, sIf, sE, mT, m2, mIxN, mNm, itemOf, M.bind, M.ret, M.opt, sSet, sOpt, setD, mB, mCons, mNil, mVar, sRetV, sRet, outs, outOf, mCall, rCons, rVar, rNil, mArV, callM, arsSV, arSV, slotsOf, putB, setCell, rvD, mBN, nmD, fz, mFz, mLst, mTup, mTru, mTruN, mTNot, mTOr, mTAnd, mIf, mOr, mAnd, mNot, dTru, m1, mSl, mPart, mNoPart, mM0, mM1, mComp, compL, inner, noCell, wipeE, restE, turnC, sFor, forL, turnL, mItems, itemsD, mItemsX, itemsX, mRng, sApp, lstAt, appAt, sAsg, gsTup, gsCons, gsNil, m2N, opAt, isSc, sRetF, sSetF, setO, mCallF, frC, mChain, e6, e7, dSub_i, dAdd_i, k2, k3, k5, z7]
  have hi : ∀ i : Int, gInt1s [.int i] = some (.int i) := fun i => rfl
  have hm : gMin2 [.int 1000000000000000000000000000000, .int (b + l)] = some (.int (mn 1000000000000000000000000000000 (b + l))) := rfl
  have hx : gMax2 [.int b, .int (mn 1000000000000000000000000000000 (b + l))] = some (.int (mx b (mn 1000000000000000000000000000000 (b + l)))) := rfl
  have s4 : b_law_ended_4 [some (.bor c7), some (.d (.int len)), some (.d (.int sh)), some (.d (.int st)), some (.d (.int b)), some (.d (.int l))] = some (.rt (.d (.tup [.int b, .int (mx b (mn 1000000000000000000000000000000 (b + l)))])) [some (.bor c7), some (.d (.int len)), some (.d (.int sh)), some (.d (.int st)), some (.d (.int b)), some (.d (.int l))]) := by
    simp [b_law_ended_4, mkF, up, sSeq, sIf, sE, mT, m2, mIxN, mNm, itemOf, M.bind, M.ret, M.opt, sSet, sOpt, setD, mB, mCons, mNil, mVar, sRetV, sRet, outs, outOf, mCall, rCons, rVar, rNil, mArV, callM, arsSV, arSV, slotsOf, putB, setCell, rvD, mBN, nmD, fz, mFz, mLst, mTup, mTru, mTruN, mTNot, mTOr, mTAnd, mIf, mOr, mAnd, mNot, dTru, m1, mSl, mPart, mNoPart, mM0, mM1, mComp, compL, inner, noCell, wipeE, restE, turnC, sFor, forL, turnL, mItems, itemsD, mItemsX, itemsX, mRng, sApp, lstAt, appAt, sAsg, gsTup, gsCons, gsNil, m2N, opAt, isSc, sRetF, sSetF, setO, mCallF, frC, mChain, p30, hi, hm, hx, dAdd_i, z2]
  exact ⟨b, _, c7, mkF_rt (n := 3) (N := 6) (body := b_law_ended) (args := [.bor c, .d (.int len), .d (.int sh)]) (ev := [some (.bor c7), some (.d (.int len)), some (.d (.int sh)), some (.d (.int st)), some (.d (.int b)), some (.d (.int l))]) rfl ((seq_nx s1).trans ((seq_nx s2).trans ((seq_nx s3).trans s4))), b7.mono (by omega)⟩
end Q
set_option Elab.async false
set_option linter.all false
set_option maxRecDepth 100000
set_option maxHeartbeats 1000000
namespace Q
open PySem
open PySem.Spec
open L2
open FL
theorem about {n : Nat} {c : Cell} {len sh : Int} (h : Bc n c) (hn : n < 600000) (h1 : 1 ≤ len) (h2 : len ≤ 1000000) : ∃ b e c', m_law_about [.bor c, .d (.int len), .d (.int sh)] = some (.ret (.d (.tup [.int b, .int e])) [.bor c', .d (.int len), .d (.int sh)]) ∧ Bc (n + 25) c' := by
  obtain ⟨r, c1, e1, r1, r2, b1⟩ := take (many := 6) h (by omega) (by decide) (by decide +kernel)
  obtain ⟨sb, se, c2, e2, b2⟩ := ended (sh := sh) b1 (by omega) h1 h2
  have s1 : b_law_about_1 [some (.bor c), some (.d (.int len)), some (.d (.int sh)), none, none, none, none] = some (.nx [some (.bor c2), some (.d (.int len)), some (.d (.int sh)), some (.d (.int r)), some (.d (.tup [.int sb, .int se])), none, none]) := by simp [b_law_about_1, mkF, up, sSeq, sIf, sE, mT, m2, mIxN, mNm, itemOf, M.bind, M.ret, M.opt, sSet, sOpt, setD, mB, mCons, mNil, mVar, sRetV, sRet, outs, outOf, mCall, rCons, rVar, rNil, mArV, callM, arsSV, arSV, slotsOf, putB, setCell, rvD, mBN, nmD, fz, mFz, mLst, mTup, mTru, mTruN, mTNot, mTOr, mTAnd, mIf, mOr, mAnd, mNot, dTru, m1, mSl, mPart, mNoPart, mM0, mM1, mComp, compL, inner, noCell, wipeE, restE, turnC, sFor, forL, turnL, mItems, itemsD, mItemsX, itemsX, mRng, sApp, lstAt, appAt, sAsg, gsTup, gsCons, gsNil, m2N, opAt, isSc, sRetF, sSetF, setO, mCallF, frC, mChain, sPar, e1, e2]
  by_cases hr : r = 0
  · obtain ⟨x, y, c3, e3, _, _, b3⟩ := stretch b2 (by omega)
    have s2 : b_law_about_2 [some (.bor c2), some (.d (.int len)), some (.d (.int sh)), some (.d (.int r)), some (.d (.tup [.int sb, .int se])), none, none] = some (.rt (.d (.tup [.int x, .int y])) [some (.bor c3), some (.d (.int len)), some (.d (.int sh)), some (.d (.int r)), some (.d (.tup [.int sb, .int se])), none, none]) := by simp [b_law_about_2, mkF, up, sSeq, sIf, sE, mT, m2, mIxN, mNm, itemOf, M.bind, M.ret, M.opt, sSet, sOpt, setD, mB, mCons, mNil, mVar, sRetV, sRet, outs, outOf, mCall, rCons, rVar, rNil, mArV, callM, arsSV, arSV, slotsOf, putB, setCell, rvD, mBN, nmD, fz, mFz, mLst, mTup, mTru, mTruN, mTNot, mTOr, mTAnd, mIf, mOr, mAnd, mNot, dTru, m1, mSl, mPart, mNoPart, mM0, mM1, mComp, compL, inner, noCell, wipeE, restE, turnC, sFor, forL, turnL, mItems, itemsD, mItemsX, itemsX, mRng, sApp, lstAt, appAt, sAsg, gsTup, gsCons, gsNil, m2N, opAt, isSc, sRetF, sSetF, setO, mCallF, frC, mChain, dEq_i, hr, e3]
    exact ⟨x, y, c3, mkF_rt (n := 3) (N := 7) (body := b_law_about) (args := [.bor c, .d (.int len), .d (.int sh)]) (ev := [some (.bor c3), some (.d (.int len)), some (.d (.int sh)), some (.d (.int r)), some (.d (.tup [.int sb, .int se])), none, none]) rfl ((seq_nx s1).trans (seq_rt s2)), b3.mono (by omega)⟩
  · have s2 : b_law_about_2 [some (.bor c2), some (.d (.int len)), some (.d (.int sh)), some (.d (.int r)), some (.d (.tup [.int sb, .int se])), none, none] = some (.nx [some (.bor c2), some (.d (.int len)), some (.d (.int sh)), some (.d (.int r)), some (.d (.tup [.int sb, .int se])), none, none]) := by simp [b_law_about_2, mkF, up, sSeq, sIf, sE, mT, m2, mIxN, mNm, itemOf, M.bind, M.ret, M.opt, sSet, sOpt, setD, mB, mCons, mNil, mVar, sRetV, sRet, outs, outOf, mCall, rCons, rVar, rNil, mArV, callM, arsSV, arSV, slotsOf, putB, setCell, rvD, mBN, nmD, fz, mFz, mLst, mTup, mTru, mTruN, mTNot, mTOr, mTAnd, mIf, mOr, mAnd, mNot, dTru, m1, mSl, mPart, mNoPart, mM0, mM1, mComp, compL, inner, noCell, wipeE, restE, turnC, sFor, forL, turnL, mItems, itemsD, mItemsX, itemsX, mRng, sApp, lstAt, appAt, sAsg, gsTup, gsCons, gsNil, m2N, opAt, isSc, sRetF, sSetF, setO, mCallF, frC, mChain, dEq_i, hr]
    obtain ⟨v1, c3, e3, a1, a2, b3⟩ := take (many := 9) b2 (by omega) (by decide) (by decide +kernel)
    obtain ⟨v2, c4, e4, _, _, b4⟩ := take (many := len) b3 (by omega) (by omega) (lg (by omega) (by omega))
    have k1 := mul_i (a := v1 - 4) (b := len) (by omega) (by omega) (by omega) (by omega)
    have s3 : b_law_about_3 [some (.bor c2), some (.d (.int len)), some (.d (.int sh)), some (.d (.int r)), some (.d (.tup [.int sb, .int se])), none, none] = some (.nx [some (.bor c4), some (.d (.int len)), some (.d (.int sh)), some (.d (.int r)), some (.d (.tup [.int sb, .int se])), some (.d (.int (sh + (v1 - 4) * len + v2))), none]) := by simp [b_law_about_3, mkF, up, sSeq, sIf, sE, mT, m2, mIxN, mNm, itemOf, M.bind, M.ret, M.opt, sSet, sOpt, setD, mB, mCons, mNil, mVar, sRetV, sRet, outs, outOf, mCall, rCons, rVar, rNil, mArV, callM, arsSV, arSV, slotsOf, putB, setCell, rvD, mBN, nmD, fz, mFz, mLst, mTup, mTru, mTruN, mTNot, mTOr, mTAnd, mIf, mOr, mAnd, mNot, dTru, m1, mSl, mPart, mNoPart, mM0, mM1, mComp, compL, inner, noCell, wipeE, restE, turnC, sFor, forL, turnL, mItems, itemsD, mItemsX, itemsX, mRng, sApp, lstAt, appAt, sAsg, gsTup, gsCons, gsNil, m2N, opAt, isSc, sRetF, sSetF, setO, mCallF, frC, mChain, dSub_i, dAdd_i, k1, e3, e4]
    generalize sh + (v1 - 4) * len + v2 = st at *
    obtain ⟨v3, c5, e5, _, _, b5⟩ := take (many := len + 1) b4 (by omega) (by omega) (lg (by omega) (by omega))
    obtain ⟨v4, c6, e6, _, _, b6⟩ := take (many := 4) b5 (by omega) (by decide) (by decide +kernel)
    obtain ⟨v5, c7, e7, _, _, b7⟩ := take (many := 6 * len) b6 (by omega) (by omega) (lg (by omega) (by omega))
    have k6 := mul_i (a := 6) (b := len) (by omega) (by omega) (by omega) (by omega)
    obtain ⟨l, c8, e8, _, b8⟩ := of_i (xs := [v3, v4, v5]) b7 (by omega) (by simp) (by simp)
    simp only [List.map_cons, List.map_nil] at e8
    have z3 : (3 : Nat) ≤ sizeLine := by decide
    have s4 : b_law_about_4 [some (.bor c4), some (.d (.int len)), some (.d (.int sh)), some (.d (.int r)), some (.d (.tup [.int sb, .int se])), some (.d (.int st)), none] = some (.nx [some (.bor c8), some (.d (.int len)), some (.d (.int sh)), some (.d (.int r)), some (.d (.tup [.int sb, .int se])), some (.d (.int st)), some (.d (.int l))]) := by simp [b_law_about_4, mkF, up, sSeq, sIf, sE, mT, m2, mIxN, mNm, itemOf, M.bind, M.ret, M.opt, sSet, sOpt, setD, mB, mCons, mNil, mVar, sRetV, sRet, outs, outOf, mCall, rCons, rVar, rNil, mArV, callM, arsSV, arSV, slotsOf, putB, setCell, rvD, mBN, nmD, fz, mFz, mLst, mTup, mTru, mTruN, mTNot, mTOr, mTAnd, mIf, mOr, mAnd, mNot, dTru, m1, mSl, mPart, mNoPart, mM0, mM1, mComp, compL, inner, noCell, wipeE, restE, turnC, sFor, forL, turnL, mItems, itemsD, mItemsX, itemsX, mRng, sApp, lstAt, appAt, sAsg, gsTup, gsCons, gsNil, m2N, opAt, isSc, sRetF, sSetF, setO, mCallF, frC, mChain, dAdd_i, k6, e5, e6, e7, e8, z3]
    obtain ⟨x, y, s5⟩ : ∃ x y : Int, b_law_about_5 [some (.bor c8), some (.d (.int len)), some (.d (.int sh)), some (.d (.int r)), some (.d (.tup [.int sb, .int se])), some (.d (.int st)), some (.d (.int l))] = some (.rt (.d (.tup [.int x, .int y])) [some (.bor c8), some (.d (.int len)), some (.d (.int sh)), some (.d (.int r)), some (.d (.tup [.int sb, .int se])), some (.d (.int st)), some (.d (.int l))]) := by
      by_cases hr1 : r = 1
      · exact ⟨sb, se, by simp [b_law_about_5, mkF, up, sSeq, sIf, sE, mT, m2, mIxN, mNm, itemOf, M.bind, M.ret, M.opt, sSet, sOpt, setD, mB, mCons, mNil, mVar, sRetV, sRet, outs, outOf, mCall, rCons, rVar, rNil, mArV, callM, arsSV, arSV, slotsOf, putB, setCell, rvD, mBN, nmD, fz, mFz, mLst, mTup, mTru, mTruN, mTNot, mTOr, mTAnd, mIf, mOr, mAnd, mNot, dTru, m1, mSl, mPart, mNoPart, mM0, mM1, mComp, compL, inner, noCell, wipeE, restE, turnC, sFor, forL, turnL, mItems, itemsD, mItemsX, itemsX, mRng, sApp, lstAt, appAt, sAsg, gsTup, gsCons, gsNil, m2N, opAt, isSc, sRetF, sSetF, setO, mCallF, frC, mChain, dEq_i, hr1]⟩
      · exact ⟨st, st + l, by simp [b_law_about_5, mkF, up, sSeq, sIf, sE, mT, m2, mIxN, mNm, itemOf, M.bind, M.ret, M.opt, sSet, sOpt, setD, mB, mCons, mNil, mVar, sRetV, sRet, outs, outOf, mCall, rCons, rVar, rNil, mArV, callM, arsSV, arSV, slotsOf, putB, setCell, rvD, mBN, nmD, fz, mFz, mLst, mTup, mTru, mTruN, mTNot, mTOr, mTAnd, mIf, mOr, mAnd, mNot, dTru, m1, mSl, mPart, mNoPart, mM0, mM1, mComp, compL, inner, noCell, wipeE, restE, turnC, sFor, forL, turnL, mItems, itemsD, mItemsX, itemsX, mRng, sApp, lstAt, appAt, sAsg, gsTup, gsCons, gsNil, m2N, opAt, isSc, sRetF, sSetF, setO, mCallF, frC, mChain, dEq_i, hr1, dAdd_i, z2]⟩
    exact ⟨x, y, c8, mkF_rt (n := 3) (N := 7) (body := b_law_about) (args := [.bor c, .d (.int len), .d (.int sh)]) (ev := [some (.bor c8), some (.d (.int len)), some (.d (.int sh)), some (.d (.int r)), some (.d (.tup [.int sb, .int se])), some (.d (.int st)), some (.d (.int l))]) rfl ((seq_nx s1).trans ((seq_nx s2).trans ((seq_nx s3).trans ((seq_nx s4).trans s5)))), b8.mono (by omega)⟩
theorem by_columns {n : Nat} {c : Cell} {bg wide : Int} {cols : Nat} (h : Bc n c) (hn : n < 600000) (w0 : 0 ≤ wide) (w1 : wide ≤ 1000000) (hc : cols ≤ 120) : ∃ b e c', m_law_by_columns [.bor c, .d (.int bg), .d (.int wide), .d (.int (cols : Int))] = some (.ret (.d (.tup [.int b, .int e])) [.bor c', .d (.int bg), .d (.int wide), .d (.int (cols : Int))]) ∧ Bc (n + 25) c' := by
  obtain ⟨v1, c1, e1, a1, a2, b1⟩ := take (many := (cols : Int) + 1) h (by omega) (by omega) (lg (by omega) (by omega))
  obtain ⟨v2, c2, e2, a3, a4, b2⟩ := take (many := (cols : Int) + 1) b1 (by omega) (by omega) (lg (by omega) (by omega))
  obtain ⟨v3, c3, e3, _, _, b3⟩ := take (many := 3) b2 (by omega) (by decide) (by decide +kernel)
  obtain ⟨v4, c4, e4, _, _, b4⟩ := take (many := 3) b3 (by omega) (by decide) (by decide +kernel)
  have hi : ∀ i : Int, gInt1s [.int i] = some (.int i) := fun i => rfl
  have hm : gMin2 [.int v1, .int v2] = some (.int (mn v1 v2)) := rfl
  have hx : gMax2 [.int v1, .int v2] = some (.int (mx v1 v2)) := rfl
  have m0 : 0 ≤ mn v1 v2 ∧ mn v1 v2 ≤ 121 := by unfold mn; split <;> omega
  have x0 : 0 ≤ mx v1 v2 ∧ mx v1 v2 ≤ 121 := by unfold mx; split <;> omega
  have k1 := mul_i (a := mn v1 v2) (b := wide) (by omega) (by omega) (by omega) (by omega)
  have k2 := mul_i (a := mx v1 v2) (b := wide) (by omega) (by omega) (by omega) (by omega)
  have hx2 : ∀ a b : Int, gMax2 [.int a, .int b] = some (.int (mx a b)) := fun a b => rfl
  refine ⟨bg + mn v1 v2 * wide + v3 - 1, mx (bg + mn v1 v2 * wide + v3 - 1) (bg + mx v1 v2 * wide + v4 - 1), c4, ?_, b4.mono (by omega)⟩
  have s1 : sPar 4 5 (mCons (mCall m_law_take [] (rVar 0 (rCons (m2 dAdd (mVar 3) (M.ret (.int 1))) rNil))) (mCons (mCall m_law_take [] (rVar 0 (rCons (m2 dAdd (mVar 3) (M.ret (.int 1))) rNil))) mNil)) [some (.bor c), some (.d (.int bg)), some (.d (.int wide)), some (.d (.int (cols : Int))), none, none, none] = some (.nx [some (.bor c2), some (.d (.int bg)), some (.d (.int wide)), some (.d (.int (cols : Int))), some (.d (.int v1)), some (.d (.int v2)), none]) := by simp [mkF, up, sSeq, sIf, sE, mT, m2, mIxN, mNm, itemOf, M.bind, M.ret, M.opt, sSet, sOpt, setD, mB, mCons, mNil, mVar, sRetV, sRet, outs, outOf, mCall, rCons, rVar, rNil, mArV, callM, arsSV, arSV, slotsOf, putB, setCell, rvD, mBN, nmD, fz, mFz, mLst, mTup, mTru, mTruN, mTNot, mTOr, mTAnd, mIf, mOr, mAnd, mNot, dTru, m1, mSl, mPart, mNoPart, mM0, mM1, mComp, compL, inner, noCell, wipeE, restE, turnC, sFor, forL, turnL, mItems, itemsD, mItemsX, itemsX, mRng, sApp, lstAt, appAt, sAsg, gsTup, gsCons, gsNil, m2N, opAt, isSc, sRetF, sSetF, setO, mCallF, frC, mChain, sPar, dAdd_i, e1, e2]
  refine mkF_rt (n := 4) (N := 7) (body := b_law_by_columns) (args := [.bor c, .d (.int bg), .d (.int wide), .d (.int (cols : Int))]) (ev := [some (.bor c4), some (.d (.int bg)), some (.d (.int wide)), some (.d (.int (cols : Int))), some (.d (.int v1)), some (.d (.int v2)), some (.d (.int (bg + mn v1 v2 * wide + v3 - 1)))]) rfl ((seq_nx s1).trans ?_)
  simp [mkF, up, sSeq, sIf, sE, mT, m2, mIxN, mNm, itemOf, M.bind, M.ret, M.opt, sSet, sOpt, setD, mB, mCons, mNil, mVar, sRetV, sRet, outs, outOf, mCall, rCons, rVar, rNil, mArV, callM, arsSV, arSV, slotsOf, putB, setCell, rvD, mBN, nmD, fz, mFz, mLst, mTup, mTru, mTruN, mTNot, mTOr, mTAnd, mIf, mOr, mAnd, mNot, dTru, m1, mSl, mPart, mNoPart, mM0, mM1, mComp, compL, inner, noCell, wipeE, restE, turnC, sFor, forL, turnL, mItems, itemsD, mItemsX, itemsX, mRng, sApp, lstAt, appAt, sAsg, gsTup, gsCons, gsNil, m2N, opAt, isSc, sRetF, sSetF, setO, mCallF, frC, mChain, dAdd_i, dSub_i, hi, hm, k1, e3]
  simp [mkF, up, sSeq, sIf, sE, mT, m2, mIxN, mNm, itemOf, M.bind, M.ret, M.opt, sSet, sOpt, setD, mB, mCons, mNil, mVar, sRetV, sRet, outs, outOf, mCall, rCons, rVar, rNil, mArV, callM, arsSV, arSV, slotsOf, putB, setCell, rvD, mBN, nmD, fz, mFz, mLst, mTup, mTru, mTruN, mTNot, mTOr, mTAnd, mIf, mOr, mAnd, mNot, dTru, m1, mSl, mPart, mNoPart, mM0, mM1, mComp, compL, inner, noCell, wipeE, restE, turnC, sFor, forL, turnL, mItems, itemsD, mItemsX, itemsX, mRng, sApp, lstAt, appAt, sAsg, gsTup, gsCons, gsNil, m2N, opAt, isSc, sRetF, sSetF, setO, mCallF, frC, mChain, dAdd_i, dSub_i, hi, hx2, hx, k2, e4, z2]
def i30 : Int := 1000000000000000000000000000000
def i31 : Int := 10000000000000000000000000000000
def oddL : List D := [.non, .bl true, .int 0, .str (Str.ofString ""), .str (Str.ofString "none"), .str (Str.ofString "1..2"), .tup [], .tup [.int 1], .lst [.int 1, .int 2], .tup [.int 1, .int 2, .int 3], .tup [.int 3, .int 2], .tup [.bl true, .int 2], .tup [.int 0, .bl true], .tup [.int 1, .non]]
  ++ [.tup [.int 1, .int (1000000000000000000000000000000 + 1)], .tup [.int (-1000000000000000000000000000000 - 1), .int 0], .tup [.int 10000000000000000000000000000000, .int 10000000000000000000000000000000], .tup [.int (-10000000000000000000000000000000), .int (-10000000000000000000000000000000)], .tup [.str (Str.ofString "1"), .str (Str.ofString "2")], .tup [.tup [.int 1, .int 2], .int 3]]
  ++ [.tup [.str (Str.ofString "in"), .bl true], .tup [.str (Str.ofString "in"), .int 10000000000000000000000000000000], .tup [.str (Str.ofString "out"), .int (-10000000000000000000000000000000)], .tup [.str (Str.ofString "in"), .int (1000000000000000000000000000000 + 1)], .tup [.str (Str.ofString "on"), .int 1], .tup [.str (Str.ofString "in")], .lst [.str (Str.ofString "in"), .int 1]]
  ++ [.tup [.str (Str.ofString "in"), .int 1], .tup [.str (Str.ofString "out"), .int 0], .tup [.int 1, .int 2], .tup [.int 0, .int 0], .tup [.int (-10000000000000000000000000000000), .int 10000000000000000000000000000000], .tup [.str (Str.ofString "in"), .str (Str.ofString "5")], .tup [.int 1, .str (Str.ofString "in")], .tup [.str (Str.ofString "In"), .int 1]]
def okTb (d : D) : Bool := plainD d && (match d with
  | .tup [a, b] => plainD a && plainD b
  | _ => true)
theorem okTb_ok {d : D} (h : okTb d = true) : okT d := by
  unfold okTb at h
  obtain ⟨h1, h2⟩ := and_tt h
  refine ⟨h1, fun a b e => ?_⟩
  subst e
  exact and_tt h2
theorem odd_ok : ∀ x ∈ oddL, okT x := fun x hx => okTb_ok (List.all_eq_true.mp (show oddL.all okTb = true by decide +kernel) x hx)
theorem odd {n : Nat} {c : Cell} (h : Bc n c) (hn : n < 600000) : ∃ x c', m_law_odd [.bor c] = some (.ret (.d x) [.bor c']) ∧ okT x ∧ Bc (n + 1) c' := by
  obtain ⟨x, c1, e1, hx, b1⟩ := of_ (xs := oddL) h (by omega) (by decide) (by decide)
  refine ⟨x, c1, ?_, odd_ok x hx, b1⟩
  have s : b_law_odd [some (.bor c), none] = b_law_odd_5 [some (.bor c), some (.d (.lst oddL))] := rfl
  have s5 : b_law_odd_5 [some (.bor c), some (.d (.lst oddL))] = some (.rt (.d x) [some (.bor c1), some (.d (.lst oddL))]) := by
    generalize oddL = L at *
    simp [b_law_odd_5, mkF, up, sSeq, sIf, sE, mT, m2, mIxN, mNm, itemOf, M.bind, M.ret, M.opt, sSet, sOpt, setD, mB, mCons, mNil, mVar, sRetV, sRet, outs, outOf, mCall, rCons, rVar, rNil, mArV, callM, arsSV, arSV, slotsOf, putB, setCell, rvD, mBN, nmD, fz, mFz, mLst, mTup, mTru, mTruN, mTNot, mTOr, mTAnd, mIf, mOr, mAnd, mNot, dTru, m1, mSl, mPart, mNoPart, mM0, mM1, mComp, compL, inner, noCell, wipeE, restE, turnC, sFor, forL, turnL, mItems, itemsD, mItemsX, itemsX, mRng, sApp, lstAt, appAt, sAsg, gsTup, gsCons, gsNil, m2N, opAt, isSc, sRetF, sSetF, setO, mCallF, frC, mChain, e1]
  exact mkF_rt (n := 1) (N := 2) (body := b_law_odd) (args := [.bor c]) (ev := [some (.bor c1), some (.d (.lst oddL))]) rfl (s.trans s5)
end Q
set_option Elab.async false
set_option linter.all false
set_option maxRecDepth 100000
set_option maxHeartbeats 1000000
namespace Q
open PySem
open PySem.Spec
open L2
open FL
section
variable {len sh num bg : Int} {cols : Nat} {c : Cell}
/-- the frame of _law_right; the last slots open -/
def rv (c : Cell) (len sh : Int) (cols : Nat) (num bg : Int) (r : List (Option SV)) : Ev := some (.bor c) :: some (.d (.int len)) :: some (.d (.int sh)) :: some (.d (.int (cols : Int))) :: some (.d (.int num)) :: some (.d (daysD len sh)) :: some (.d (.int bg)) :: r
theorem right1 {n : Nat} (h : Bc n c) (hn : n < 500000) : ∃ len sh c', b_law_right_1 [some (.bor c), none, none, none, none, none, none, none, none, none, none, none, none, none, none] = some (.nx [some (.bor c'), some (.d (.int len)), some (.d (.int sh)), none, none, none, none, none, none, none, none, none, none, none, none]) ∧ 1 ≤ len ∧ len ≤ 1000000 ∧ 0 ≤ sh ∧ sh < len ∧ Bc (n + 6) c' := by
  obtain ⟨len, sh, c', e, h1, h2, h3, h4, b⟩ := days h (by omega)
  exact ⟨len, sh, c', by simp [b_law_right_1, mkF, up, sSeq, sIf, sE, mT, m2, mIxN, mNm, itemOf, M.bind, M.ret, M.opt, sSet, sOpt, setD, mB, mCons, mNil, mVar, sRetV, sRet, outs, outOf, mCall, rCons, rVar, rNil, mArV, callM, arsSV, arSV, slotsOf, putB, setCell, rvD, mBN, nmD, fz, mFz, mLst, mTup, mTru, mTruN, mTNot, mTOr, mTAnd, mIf, mOr, mAnd, mNot, dTru, m1, mSl, mPart, mNoPart, mM0, mM1, mComp, compL, inner, noCell, wipeE, restE, turnC, sFor, forL, turnL, mItems, itemsD, mItemsX, itemsX, mRng, sApp, lstAt, appAt, sAsg, gsTup, gsCons, gsNil, m2N, opAt, isSc, sRetF, sSetF, setO, mCallF, frC, mChain, e], h1, h2, h3, h4, b⟩
theorem right2 {n : Nat} (h : Bc n c) (hn : n < 500000) : ∃ (cols : Nat) (num : Int) (c' : Cell), b_law_right_2 [some (.bor c), some (.d (.int len)), some (.d (.int sh)), none, none, none, none, none, none, none, none, none, none, none, none] = some (.nx [some (.bor c'), some (.d (.int len)), some (.d (.int sh)), some (.d (.int (cols : Int))), some (.d (.int num)), none, none, none, none, none, none, none, none, none, none]) ∧ 1 ≤ cols ∧ cols ≤ 120 ∧ len % (cols : Int) = 0 ∧ -5 ≤ num ∧ num ≤ 5 ∧ Bc (n + 2) c' := by
  obtain ⟨k, c1, e1, k1, k2, k3, b1⟩ := columns (len := len) h (by omega)
  obtain ⟨v, c2, e2, v1, v2, b2⟩ := take (many := 9) b1 (by omega) (by decide) (by decide +kernel)
  exact ⟨k, v - 4, c2, by simp [b_law_right_2, mkF, up, sSeq, sIf, sE, mT, m2, mIxN, mNm, itemOf, M.bind, M.ret, M.opt, sSet, sOpt, setD, mB, mCons, mNil, mVar, sRetV, sRet, outs, outOf, mCall, rCons, rVar, rNil, mArV, callM, arsSV, arSV, slotsOf, putB, setCell, rvD, mBN, nmD, fz, mFz, mLst, mTup, mTru, mTruN, mTNot, mTOr, mTAnd, mIf, mOr, mAnd, mNot, dTru, m1, mSl, mPart, mNoPart, mM0, mM1, mComp, compL, inner, noCell, wipeE, restE, turnC, sFor, forL, turnL, mItems, itemsD, mItemsX, itemsX, mRng, sApp, lstAt, appAt, sAsg, gsTup, gsCons, gsNil, m2N, opAt, isSc, sRetF, sSetF, setO, mCallF, frC, mChain, e1, e2, dSub_i, z2], k1, k2, k3, by omega, by omega, b2⟩
theorem right3 (h1 : 1 ≤ len) (h2 : len ≤ 1000000) (h3 : 0 ≤ sh) (h4 : sh < len) (g1 : -5 ≤ num) (g2 : num ≤ 5) : b_law_right_3 [some (.bor c), some (.d (.int len)), some (.d (.int sh)), some (.d (.int (cols : Int))), some (.d (.int num)), none, none, none, none, none, none, none, none, none, none] = some (.nx (rv c len sh cols num (sh + num * len) [none, none, none, none, none, none, none, none])) := by
  have e := init_good h1 h2 h3 h4
  have k1 := mul_i (a := num) (b := len) (by omega) (by omega) (by omega) (by omega)
  simp [b_law_right_3, mkF, up, sSeq, sIf, sE, mT, m2, mIxN, mNm, itemOf, M.bind, M.ret, M.opt, sSet, sOpt, setD, mB, mCons, mNil, mVar, sRetV, sRet, outs, outOf, mCall, rCons, rVar, rNil, mArV, callM, arsSV, arSV, slotsOf, putB, setCell, rvD, mBN, nmD, fz, mFz, mLst, mTup, mTru, mTruN, mTNot, mTOr, mTAnd, mIf, mOr, mAnd, mNot, dTru, m1, mSl, mPart, mNoPart, mM0, mM1, mComp, compL, inner, noCell, wipeE, restE, turnC, sFor, forL, turnL, mItems, itemsD, mItemsX, itemsX, mRng, sApp, lstAt, appAt, sAsg, gsTup, gsCons, gsNil, m2N, opAt, isSc, sRetF, sSetF, setO, mCallF, frC, mChain, rv, daysD, mMake, makeM, rApp, arrA, arr, e, frNon, k1, dAdd_i, z2]
theorem comp4 {n : Nat} {r : List (Option SV)} (h : Bc n c) (hn : n < 400000) (h1 : 1 ≤ len) (h2 : len ≤ 1000000) (hr : r.length = 7) :
    ∃ (ps : List (Int × Int)) (c' : Cell), mComp [14] (setD 14) (M.ret true) (mCall m_law_about [] (rVar 0 (rVar 1 (rVar 2 rNil)))) (mRng rng1 (mCons (mCall m_law_take [] (rVar 0 (rCons (M.ret (.int 4)) rNil))) mNil)) (rv c len sh cols num bg (r ++ [none])) = some (.ok (.lst (ps.map pD)) (rv c' len sh cols num bg (r ++ [none]))) ∧ ps.length ≤ 4 ∧ Bc (n + 200) c' := by
  obtain ⟨v, c1, e1, v1, v2, b1⟩ := take (many := 4) h (by omega) (by decide) (by decide +kernel)
  obtain ⟨k, rfl⟩ : ∃ k : Nat, v = (k : Int) := ⟨v.toNat, by omega⟩
  match r, hr with
  | [r0, r1, r2, r3, r4, r5, r6], _ =>
  have it : mRng rng1 (mCons (mCall m_law_take [] (rVar 0 (rCons (M.ret (.int 4)) rNil))) mNil) (rv c len sh cols num bg ([r0, r1, r2, r3, r4, r5, r6] ++ [none])) = some (.ok ((List.range k).map fun (i : Nat) => D.int (0 + (i : Int))) (rv c1 len sh cols num bg ([r0, r1, r2, r3, r4, r5, r6] ++ [none]))) := by
    refine mRng_ok (ds := [.int (k : Int)]) ?_ (rng1_n (by omega))
    simp [mkF, up, sSeq, sIf, sE, mT, m2, mIxN, mNm, itemOf, M.bind, M.ret, M.opt, sSet, sOpt, setD, mB, mCons, mNil, mVar, sRetV, sRet, outs, outOf, mCall, rCons, rVar, rNil, mArV, callM, arsSV, arSV, slotsOf, putB, setCell, rvD, mBN, nmD, fz, mFz, mLst, mTup, mTru, mTruN, mTNot, mTOr, mTAnd, mIf, mOr, mAnd, mNot, dTru, m1, mSl, mPart, mNoPart, mM0, mM1, mComp, compL, inner, noCell, wipeE, restE, turnC, sFor, forL, turnL, mItems, itemsD, mItemsX, itemsX, mRng, sApp, lstAt, appAt, sAsg, gsTup, gsCons, gsNil, m2N, opAt, isSc, sRetF, sSetF, setO, mCallF, frC, mChain, rv, e1]
  obtain ⟨acc, ev', ec, c2, rfl, ps, rfl, hlen, b2, _⟩ := compL_inv (vs := [14]) (gs := setD 14) (ct := M.ret true) (ce := mCall m_law_about [] (rVar 0 (rVar 1 (rVar 2 rNil))))
    (J := fun i acc ev => ∃ c', ev = rv c' len sh cols num bg ([r0, r1, r2, r3, r4, r5, r6] ++ [none]) ∧ ∃ ps : List (Int × Int), acc = ps.map pD ∧ ps.length = i ∧ Bc (n + 1 + 25 * i) c' ∧ i ≤ k) (xs := (List.range k).map fun (i : Nat) => D.int (0 + (i : Int))) (i := 0) (acc := []) (ev := rv c1 len sh cols num bg ([r0, r1, r2, r3, r4, r5, r6] ++ [none])) ⟨c1, rfl, [], rfl, rfl, b1, by omega⟩ (fun j x acc ev hk hj => by
      obtain ⟨c2, rfl, ps, rfl, hlen, b2, hjk⟩ := hj
      obtain ⟨hj2, rfl⟩ := rng_get hk
      obtain ⟨x, y, c3, e3, b3⟩ := about (sh := sh) b2 (by omega) h1 h2
      refine ⟨some (.tup [.int x, .int y]), rv c3 len sh cols num bg ([r0, r1, r2, r3, r4, r5, r6] ++ [none]), ?_, by rw [List.length_map, sizeLine_eq]; omega, c3, rfl, ps ++ [(x, y)], by simp [pD], by simp [hlen], b3.mono (by omega), by omega⟩
      simp [mkF, up, sSeq, sIf, sE, mT, m2, mIxN, mNm, itemOf, M.bind, M.ret, M.opt, sSet, sOpt, setD, mB, mCons, mNil, mVar, sRetV, sRet, outs, outOf, mCall, rCons, rVar, rNil, mArV, callM, arsSV, arSV, slotsOf, putB, setCell, rvD, mBN, nmD, fz, mFz, mLst, mTup, mTru, mTruN, mTNot, mTOr, mTAnd, mIf, mOr, mAnd, mNot, dTru, m1, mSl, mPart, mNoPart, mM0, mM1, mComp, compL, inner, noCell, wipeE, restE, turnC, sFor, forL, turnL, mItems, itemsD, mItemsX, itemsX, mRng, sApp, lstAt, appAt, sAsg, gsTup, gsCons, gsNil, m2N, opAt, isSc, sRetF, sSetF, setO, mCallF, frC, mChain, rv, e3])
  refine ⟨ps, c2, mComp_ok it ec, by simp at hlen; omega, b2.mono (by simp; omega)⟩
theorem comp5 {n : Nat} {r : List (Option SV)} (h : Bc n c) (hn : n < 400000) (h1 : 1 ≤ len) (h2 : len ≤ 1000000) (hc1 : 1 ≤ cols) (hc2 : cols ≤ 120) (hr : r.length = 7) :
    ∃ (ps : List (Int × Int)) (c' : Cell), mComp [14] (setD 14) (M.ret true) (mCall m_law_by_columns [] (rVar 0 (rVar 6 (rCons (m2 dFdiv (mVar 1) (mVar 3)) (rVar 3 rNil))))) (mRng rng1 (mCons (mCall m_law_take [] (rVar 0 (rCons (M.ret (.int 4)) rNil))) mNil)) (rv c len sh cols num bg (r ++ [none])) = some (.ok (.lst (ps.map pD)) (rv c' len sh cols num bg (r ++ [none]))) ∧ ps.length ≤ 4 ∧ Bc (n + 200) c' := by
  obtain ⟨w0, w1⟩ := wide_b (c := (cols : Int)) h1 h2 (by omega)
  have hf := fdiv_i (a := len) (b := (cols : Int)) (by omega) (by omega)
  obtain ⟨v, c1, e1, v1, v2, b1⟩ := take (many := 4) h (by omega) (by decide) (by decide +kernel)
  obtain ⟨k, rfl⟩ : ∃ k : Nat, v = (k : Int) := ⟨v.toNat, by omega⟩
  match r, hr with
  | [r0, r1, r2, r3, r4, r5, r6], _ =>
  have it : mRng rng1 (mCons (mCall m_law_take [] (rVar 0 (rCons (M.ret (.int 4)) rNil))) mNil) (rv c len sh cols num bg ([r0, r1, r2, r3, r4, r5, r6] ++ [none])) = some (.ok ((List.range k).map fun (i : Nat) => D.int (0 + (i : Int))) (rv c1 len sh cols num bg ([r0, r1, r2, r3, r4, r5, r6] ++ [none]))) := by
    refine mRng_ok (ds := [.int (k : Int)]) ?_ (rng1_n (by omega))
    simp [mkF, up, sSeq, sIf, sE, mT, m2, mIxN, mNm, itemOf, M.bind, M.ret, M.opt, sSet, sOpt, setD, mB, mCons, mNil, mVar, sRetV, sRet, outs, outOf, mCall, rCons, rVar, rNil, mArV, callM, arsSV, arSV, slotsOf, putB, setCell, rvD, mBN, nmD, fz, mFz, mLst, mTup, mTru, mTruN, mTNot, mTOr, mTAnd, mIf, mOr, mAnd, mNot, dTru, m1, mSl, mPart, mNoPart, mM0, mM1, mComp, compL, inner, noCell, wipeE, restE, turnC, sFor, forL, turnL, mItems, itemsD, mItemsX, itemsX, mRng, sApp, lstAt, appAt, sAsg, gsTup, gsCons, gsNil, m2N, opAt, isSc, sRetF, sSetF, setO, mCallF, frC, mChain, rv, e1]
  obtain ⟨acc, ev', ec, c2, rfl, ps, rfl, hlen, b2, _⟩ := compL_inv (vs := [14]) (gs := setD 14) (ct := M.ret true) (ce := mCall m_law_by_columns [] (rVar 0 (rVar 6 (rCons (m2 dFdiv (mVar 1) (mVar 3)) (rVar 3 rNil)))))
    (J := fun i acc ev => ∃ c', ev = rv c' len sh cols num bg ([r0, r1, r2, r3, r4, r5, r6] ++ [none]) ∧ ∃ ps : List (Int × Int), acc = ps.map pD ∧ ps.length = i ∧ Bc (n + 1 + 25 * i) c' ∧ i ≤ k) (xs := (List.range k).map fun (i : Nat) => D.int (0 + (i : Int))) (i := 0) (acc := []) (ev := rv c1 len sh cols num bg ([r0, r1, r2, r3, r4, r5, r6] ++ [none])) ⟨c1, rfl, [], rfl, rfl, b1, by omega⟩ (fun j x acc ev hk hj => by
      obtain ⟨c2, rfl, ps, rfl, hlen, b2, hjk⟩ := hj
      obtain ⟨hj2, rfl⟩ := rng_get hk
      obtain ⟨x, y, c3, e3, b3⟩ := by_columns (bg := bg) (cols := cols) b2 (by omega) w0 w1 hc2
      refine ⟨some (.tup [.int x, .int y]), rv c3 len sh cols num bg ([r0, r1, r2, r3, r4, r5, r6] ++ [none]), ?_, by rw [List.length_map, sizeLine_eq]; omega, c3, rfl, ps ++ [(x, y)], by simp [pD], by simp [hlen], b3.mono (by omega), by omega⟩
      simp [mkF, up, sSeq, sIf, sE, mT, m2, mIxN, mNm, itemOf, M.bind, M.ret, M.opt, sSet, sOpt, setD, mB, mCons, mNil, mVar, sRetV, sRet, outs, outOf, mCall, rCons, rVar, rNil, mArV, callM, arsSV, arSV, slotsOf, putB, setCell, rvD, mBN, nmD, fz, mFz, mLst, mTup, mTru, mTruN, mTNot, mTOr, mTAnd, mIf, mOr, mAnd, mNot, dTru, m1, mSl, mPart, mNoPart, mM0, mM1, mComp, compL, inner, noCell, wipeE, restE, turnC, sFor, forL, turnL, mItems, itemsD, mItemsX, itemsX, mRng, sApp, lstAt, appAt, sAsg, gsTup, gsCons, gsNil, m2N, opAt, isSc, sRetF, sSetF, setO, mCallF, frC, mChain, rv, hf, e3])
  refine ⟨ps, c2, mComp_ok it ec, by simp at hlen; omega, b2.mono (by simp; omega)⟩
theorem right4 {n : Nat} (h : Bc n c) (hn : n < 400000) (h1 : 1 ≤ len) (h2 : len ≤ 1000000) : ∃ (ps : List (Int × Int)) (c' : Cell), b_law_right_4 (rv c len sh cols num bg [none, none, none, none, none, none, none, none]) = some (.nx (rv c' len sh cols num bg [some (.d (.lst (ps.map pD))), none, none, none, none, none, none, none])) ∧ ps.length ≤ 4 ∧ Bc (n + 200) c' := by
  obtain ⟨ps, c', e, hl, b⟩ := comp4 (sh := sh) (cols := cols) (num := num) (bg := bg) (r := [none, none, none, none, none, none, none]) h hn h1 h2 rfl
  exact ⟨ps, c', sSet_ok (mFz_ok e) rfl, hl, b⟩
theorem right5 {n : Nat} {ps : List (Int × Int)} (h : Bc n c) (hn : n < 400000) (h1 : 1 ≤ len) (h2 : len ≤ 1000000) (hc1 : 1 ≤ cols) (hc2 : cols ≤ 120) (hl : ps.length ≤ 4) : ∃ (qs : List (Int × Int)) (c' : Cell), b_law_right_5 (rv c len sh cols num bg [some (.d (.lst (ps.map pD))), none, none, none, none, none, none, none]) = some (.nx (rv c' len sh cols num bg [some (.d (.lst (qs.map pD))), none, none, none, none, none, none, none])) ∧ qs.length ≤ 8 ∧ Bc (n + 200) c' := by
  obtain ⟨qs, c', e, hq, b⟩ := comp5 (sh := sh) (cols := cols) (num := num) (bg := bg) (r := [some (.d (.lst (ps.map pD))), none, none, none, none, none, none]) h hn h1 h2 hc1 hc2 rfl
  refine ⟨ps ++ qs, c', sSet_ok (m2_ok rfl (mFz_ok e) ?_) rfl, by simp; omega, b⟩
  rw [List.map_append]
  exact dAdd_l (by rw [List.length_map, List.length_map, sizeLine_eq]; omega)
theorem right6 {L : List D} : b_law_right_6 (rv c len sh cols num bg [some (.d (.lst L)), none, none, none, none, none, none, none]) = some (.nx (rv c len sh cols num bg [some (.d (.lst L)), some (.d (.lst L)), none, none, none, none, none, none])) := by
  simp [b_law_right_6, mkF, up, sSeq, sIf, sE, mT, m2, mIxN, mNm, itemOf, M.bind, M.ret, M.opt, sSet, sOpt, setD, mB, mCons, mNil, mVar, sRetV, sRet, outs, outOf, mCall, rCons, rVar, rNil, mArV, callM, arsSV, arSV, slotsOf, putB, setCell, rvD, mBN, nmD, fz, mFz, mLst, mTup, mTru, mTruN, mTNot, mTOr, mTAnd, mIf, mOr, mAnd, mNot, dTru, m1, mSl, mPart, mNoPart, mM0, mM1, mComp, compL, inner, noCell, wipeE, restE, turnC, sFor, forL, turnL, mItems, itemsD, mItemsX, itemsX, mRng, sApp, lstAt, appAt, sAsg, gsTup, gsCons, gsNil, m2N, opAt, isSc, sRetF, sSetF, setO, mCallF, frC, mChain, rv, gList1]
theorem right7 {n : Nat} {L : List D} (h : Bc n c) (hn : n < 400000) (h1 : 1 ≤ len) (h2 : len ≤ 1000000) (h3 : 0 ≤ sh) (h4 : sh < len) : ∃ (ed : Int) (c' : Cell), b_law_right_7 (rv c len sh cols num bg [some (.d (.lst L)), some (.d (.lst L)), none, none, none, none, none, none]) = some (.nx (rv c' len sh cols num bg [some (.d (.lst L)), some (.d (.lst L)), some (.d (.int ed)), none, none, none, none, none])) ∧ -(2 ^ 199) < ed ∧ ed < 2 ^ 199 ∧ Bc (n + 2) c' := by
  obtain ⟨i, c1, e1, hi, b1⟩ := of_i (xs := [1000000000000000000000000000000, -1000000000000000000000000000000]) h (by omega) (by simp) (by simp)
  simp only [List.map_cons, List.map_nil] at e1
  have hi' : i = 1000000000000000000000000000000 ∨ i = -1000000000000000000000000000000 := by simpa using hi
  obtain ⟨v, c2, e2, v1, v2, b2⟩ := take (many := 4) b1 (by omega) (by decide) (by decide +kernel)
  have hf := fdiv_i (a := i - sh) (b := len) (by omega) (by omega)
  have q2 : -(2 ^ 198) < (i - sh) / len ∧ (i - sh) / len < 2 ^ 198 := by
    constructor
    · have : -(2 ^ 198 : Int) + 1 ≤ (i - sh) / len := by
        rw [Int.le_ediv_iff_mul_le (by omega)]
        have : (-(2 ^ 198 : Int) + 1) * len ≤ (-(2 ^ 198 : Int) + 1) * 1 := Int.mul_le_mul_of_nonpos_left (by decide) (by omega)
        omega
      omega
    · have : (i - sh) / len ≤ i - sh ∨ i - sh < 0 := by
        by_cases hz : 0 ≤ i - sh
        · exact .inl (Int.ediv_le_self _ hz)
        · exact .inr (by omega)
      rcases this with h | h
      · omega
      · have := Int.ediv_neg_of_neg_of_pos h (show 0 < len by omega)
        omega
  refine ⟨(i - sh) / len + v - 2, c2, ?_, by omega, by omega, b2⟩
  simp [b_law_right_7, mkF, up, sSeq, sIf, sE, mT, m2, mIxN, mNm, itemOf, M.bind, M.ret, M.opt, sSet, sOpt, setD, mB, mCons, mNil, mVar, sRetV, sRet, outs, outOf, mCall, rCons, rVar, rNil, mArV, callM, arsSV, arSV, slotsOf, putB, setCell, rvD, mBN, nmD, fz, mFz, mLst, mTup, mTru, mTruN, mTNot, mTOr, mTAnd, mIf, mOr, mAnd, mNot, dTru, m1, mSl, mPart, mNoPart, mM0, mM1, mComp, compL, inner, noCell, wipeE, restE, turnC, sFor, forL, turnL, mItems, itemsD, mItemsX, itemsX, mRng, sApp, lstAt, appAt, sAsg, gsTup, gsCons, gsNil, m2N, opAt, isSc, sRetF, sSetF, setO, mCallF, frC, mChain, rv, p30, dNeg_i, z2, e1, e2, dSub_i, dAdd_i, hf]
end
end Q
set_option Elab.async false
set_option linter.all false
set_option maxRecDepth 100000
set_option maxHeartbeats 1000000
namespace Q
open PySem
open PySem.Spec
open L2
open FL
def okC (c : D) : Prop := plainD c = true ∧ c24 c ∧ okS 4 c = true
theorem okC_int (i : Int) : okC (.int i) := ⟨rfl, ⟨decide (i = 24), dEq_i, fun h => by rw [of_decide_eq_true h]⟩, rfl⟩
def oddC (len : Int) : List D := [.non, .bl true, .int 0, .int (-1), .int 121, .int 120, .int 24, .int 7, .str (Str.ofString "24"), .tup [.int 1], .int len, .int (len + 1), .int 10000000000000000000000000000000, .lst [.int 24], .int 1]
theorem oddC_ok {len : Int} : ∀ x ∈ oddC len, okC x := fun x hx => by
  simp only [oddC, List.mem_cons, List.not_mem_nil, or_false] at hx
  rcases hx with rfl | rfl | rfl | rfl | rfl | rfl | rfl | rfl | rfl | rfl | rfl | rfl | rfl | rfl | rfl
  · exact ⟨rfl, ⟨false, rfl, fun h => by cases h⟩, rfl⟩
  · exact ⟨rfl, ⟨false, rfl, fun h => by cases h⟩, rfl⟩
  · exact okC_int _
  · exact okC_int _
  · exact okC_int _
  · exact okC_int _
  · exact okC_int _
  · exact okC_int _
  · exact ⟨rfl, ⟨false, rfl, fun h => by cases h⟩, rfl⟩
  · exact ⟨rfl, ⟨false, rfl, fun h => by cases h⟩, by decide⟩
  · exact okC_int _
  · exact okC_int _
  · exact okC_int _
  · exact ⟨rfl, ⟨false, rfl, fun h => by cases h⟩, by decide⟩
  · exact okC_int _
section
variable {len sh num bg ed : Int} {cols : Nat} {c : Cell}
theorem right8 {n : Nat} {L : List D} (h : Bc n c) (hn : n < 400000) : ∃ (od : D) (c' : Cell), b_law_right_8 (rv c len sh cols num bg [some (.d (.lst L)), some (.d (.lst L)), some (.d (.int ed)), none, none, none, none, none]) = some (.nx (rv c' len sh cols num bg [some (.d (.lst L)), some (.d (.lst L)), some (.d (.int ed)), some (.d od), none, none, none, none])) ∧ okC od ∧ Bc (n + 1) c' := by
  obtain ⟨x, c1, e1, hx, b1⟩ := of_ (xs := oddC len) h (by omega) (by simp [oddC]) (by simp [oddC])
  refine ⟨x, c1, ?_, oddC_ok x hx, b1⟩
  unfold oddC at e1
  have z15 : (15 : Nat) ≤ sizeLine := by decide
  have ng : dNeg (.int 1) = some (.int (-1)) := rfl
  simp [b_law_right_8, mkF, up, sSeq, sIf, sE, mT, m2, mIxN, mNm, itemOf, M.bind, M.ret, M.opt, sSet, sOpt, setD, mB, mCons, mNil, mVar, sRetV, sRet, outs, outOf, mCall, rCons, rVar, rNil, mArV, callM, arsSV, arSV, slotsOf, putB, setCell, rvD, mBN, nmD, fz, mFz, mLst, mTup, mTru, mTruN, mTNot, mTOr, mTAnd, mIf, mOr, mAnd, mNot, dTru, m1, mSl, mPart, mNoPart, mM0, mM1, mComp, compL, inner, noCell, wipeE, restE, turnC, sFor, forL, turnL, mItems, itemsD, mItemsX, itemsX, mRng, sApp, lstAt, appAt, sAsg, gsTup, gsCons, gsNil, m2N, opAt, isSc, sRetF, sSetF, setO, mCallF, frC, mChain, rv, p31, ng, dAdd_i, z1, z15, e1]
def prB : MS := (sSeq (sSet 12 (mCall m_law_told [] (rVar 5 (rVar 7 (rCons (mIxN 11 (M.ret (.int 0))) (rCons (mIxN 11 (M.ret (.int 1))) rNil)))))) (sIf (mTOr (mTNot (mTru (mCall (m_law_is_strict 6) [] (rVar 12 (rCons (mCall m_law_due [] (rVar 8 (rCons (mIxN 11 (M.ret (.int 0))) (rCons (mIxN 11 (M.ret (.int 1))) (rVar 1 (rVar 2 rNil)))))) rNil))))) (mT (m2 dNe (mVar 7) (mVar 8)))) (sRet (M.ret (.bl false))) (fun ev => some (.nx ev))))
theorem l0 {a b : D} : dIx (.lst [a, b]) (.int 0) = some a := rfl
theorem l1 {a b : D} : dIx (.lst [a, b]) (.int 1) = some b := rfl
theorem pD_ok {ps : List (Int × Int)} : ∀ x ∈ ps.map pD, okT x := fun x hx => by
  obtain ⟨p, _, rfl⟩ := List.mem_map.mp hx
  exact ⟨rfl, fun a b e => by cases e; exact ⟨rfl, rfl⟩⟩
theorem pair1 {ps : List (Int × Int)} {nu : Int} {co : D} {e9 e10 e12 : Option SV} (hl : ps.length ≤ 8) (h1 : 1 ≤ len) (h2 : len ≤ 1000000) (g1 : -(2 ^ 200) < nu) (g2 : nu < 2 ^ 200) (hc : okC co) (h12 : Dt e12) :
    ∃ x, prB (rv c len sh cols num bg [some (.d (.lst (ps.map pD))), some (.d (.lst (ps.map pD))), e9, e10, some (.d (.lst [.int nu, co])), e12, none, none]) = some (.nx (rv c len sh cols num bg [some (.d (.lst (ps.map pD))), some (.d (.lst (ps.map pD))), e9, e10, some (.d (.lst [.int nu, co])), some (.d x), none, none])) := by
  obtain ⟨hp, h24, oc⟩ := hc
  obtain ⟨X, t1, t2, ok⟩ := both (d := .lst (ps.map pD)) (xs := ps.map pD) (sh := sh) (.inl rfl) (by simp; omega) pD_ok hp h24 oc h1 h2 g1 g2
  have hs := strict_refl 6 X ok
  have hne := dNe_pairs ps
  generalize ps.map pD = L at *
  refine ⟨X, ?_⟩
  have c1 : ∀ e12 : Option SV, mCall m_law_told [] (rVar 5 (rVar 7 (rCons (mIxN 11 (M.ret (.int 0))) (rCons (mIxN 11 (M.ret (.int 1))) rNil)))) (rv c len sh cols num bg [some (.d (.lst L)), some (.d (.lst L)), e9, e10, some (.d (.lst [.int nu, co])), e12, none, none]) = some (.ok X (rv c len sh cols num bg [some (.d (.lst L)), some (.d (.lst L)), e9, e10, some (.d (.lst [.int nu, co])), e12, none, none])) := fun e12 => call_d [daysD len sh, .lst L, .int nu, co] rfl t1
  have c2 : ∀ e12 : Option SV, mCall m_law_due [] (rVar 8 (rCons (mIxN 11 (M.ret (.int 0))) (rCons (mIxN 11 (M.ret (.int 1))) (rVar 1 (rVar 2 rNil))))) (rv c len sh cols num bg [some (.d (.lst L)), some (.d (.lst L)), e9, e10, some (.d (.lst [.int nu, co])), e12, none, none]) = some (.ok X (rv c len sh cols num bg [some (.d (.lst L)), some (.d (.lst L)), e9, e10, some (.d (.lst [.int nu, co])), e12, none, none])) := fun e12 => call_d [.lst L, .int nu, co, .int len, .int sh] rfl t2
  have c3 := call_d (m := m_law_is_strict 6) (ca := rVar 12 (rCons (mCall m_law_due [] (rVar 8 (rCons (mIxN 11 (M.ret (.int 0))) (rCons (mIxN 11 (M.ret (.int 1))) (rVar 1 (rVar 2 rNil)))))) rNil)) [X, X] (ev := rv c len sh cols num bg [some (.d (.lst L)), some (.d (.lst L)), e9, e10, some (.d (.lst [.int nu, co])), some (.d X), none, none]) (rVar_ok (a := .d X) (ev1 := rv c len sh cols num bg [some (.d (.lst L)), some (.d (.lst L)), e9, e10, some (.d (.lst [.int nu, co])), some (.d X), none, none]) rfl (rCons_ok (c2 (some (.d X))) rfl)) hs
  have s1 := sSet_ok (i := 12) (c1 e12) (ev2 := rv c len sh cols num bg [some (.d (.lst L)), some (.d (.lst L)), e9, e10, some (.d (.lst [.int nu, co])), some (.d X), none, none]) (by rcases h12 with rfl | ⟨q, rfl⟩ <;> rfl)
  refine (seq_nx s1).trans ((sIf_f (mTOr_f (mTNot_ok (mTru_ok c3 rfl)) |>.trans (mT_ok (m2_ok rfl rfl hne)))).trans rfl)
theorem right9 {ps : List (Int × Int)} {od : D} (hl : ps.length ≤ 8) (h1 : 1 ≤ len) (h2 : len ≤ 1000000) (g1 : -5 ≤ num) (g2 : num ≤ 5) (g3 : -(2 ^ 199) < ed) (g4 : ed < 2 ^ 199) (ho : okC od) :
    ∃ e11 e12, b_law_right_9 (rv c len sh cols num bg [some (.d (.lst (ps.map pD))), some (.d (.lst (ps.map pD))), some (.d (.int ed)), some (.d od), none, none, none, none]) = some (.nx (rv c len sh cols num bg [some (.d (.lst (ps.map pD))), some (.d (.lst (ps.map pD))), some (.d (.int ed)), some (.d od), e11, e12, none, none])) := by
  have it : mItems (mTup (mCons (mFz (mLst (mCons (mVar 4) (mCons (mVar 3) mNil)))) (mCons (mFz (mLst (mCons (mVar 9) (mCons (mVar 3) mNil)))) (mCons (mFz (mLst (mCons (mVar 4) (mCons (mVar 10) mNil)))) (mCons (mFz (mLst (mCons (mVar 9) (mCons (mVar 10) mNil)))) (mCons (mFz (mLst (mCons (mVar 4) (mCons (M.ret (.int 24)) mNil)))) mNil)))))) (rv c len sh cols num bg [some (.d (.lst (ps.map pD))), some (.d (.lst (ps.map pD))), some (.d (.int ed)), some (.d od), none, none, none, none]) =
      some (.ok [.lst [.int num, .int (cols : Int)], .lst [.int ed, .int (cols : Int)], .lst [.int num, od], .lst [.int ed, od], .lst [.int num, .int 24]] (rv c len sh cols num bg [some (.d (.lst (ps.map pD))), some (.d (.lst (ps.map pD))), some (.d (.int ed)), some (.d od), none, none, none, none])) := by
    generalize ps.map pD = L
    have z5 : (5 : Nat) ≤ sizeLine := by decide
    simp [mkF, up, sSeq, sIf, sE, mT, m2, mIxN, mNm, itemOf, M.bind, M.ret, M.opt, sSet, sOpt, setD, mB, mCons, mNil, mVar, sRetV, sRet, outs, outOf, mCall, rCons, rVar, rNil, mArV, callM, arsSV, arSV, slotsOf, putB, setCell, rvD, mBN, nmD, fz, mFz, mLst, mTup, mTru, mTruN, mTNot, mTOr, mTAnd, mIf, mOr, mAnd, mNot, dTru, m1, mSl, mPart, mNoPart, mM0, mM1, mComp, compL, inner, noCell, wipeE, restE, turnC, sFor, forL, turnL, mItems, itemsD, mItemsX, itemsX, mRng, sApp, lstAt, appAt, sAsg, gsTup, gsCons, gsNil, m2N, opAt, isSc, sRetF, sSetF, setO, mCallF, frC, mChain, rv, z2, z5]
  obtain ⟨ev', e, e11, e12, rfl, _, _⟩ := forL_inv (gs := setD 11) (cb := prB) (J := fun _ ev => ∃ e11 e12, ev = rv c len sh cols num bg [some (.d (.lst (ps.map pD))), some (.d (.lst (ps.map pD))), some (.d (.int ed)), some (.d od), e11, e12, none, none] ∧ Dt e11 ∧ Dt e12) (xs := [.lst [.int num, .int (cols : Int)], .lst [.int ed, .int (cols : Int)], .lst [.int num, od], .lst [.int ed, od], .lst [.int num, .int 24]]) (i := 0) (ev := rv c len sh cols num bg [some (.d (.lst (ps.map pD))), some (.d (.lst (ps.map pD))), some (.d (.int ed)), some (.d od), none, none, none, none]) ⟨none, none, rfl, .inl rfl, .inl rfl⟩ (fun k x ev hk hj => by
      obtain ⟨e11, e12, rfl, h11, h12⟩ := hj
      obtain ⟨nu, co, rfl, q1, q2, q3⟩ : ∃ nu co, x = .lst [.int nu, co] ∧ -(2 ^ 200) < nu ∧ nu < 2 ^ 200 ∧ okC co := by
        have hx := List.mem_of_getElem? hk
        simp only [List.mem_cons, List.not_mem_nil, or_false] at hx
        rcases hx with rfl | rfl | rfl | rfl | rfl
        · exact ⟨_, _, rfl, by omega, by omega, okC_int _⟩
        · exact ⟨_, _, rfl, by omega, by omega, okC_int _⟩
        · exact ⟨_, _, rfl, by omega, by omega, ho⟩
        · exact ⟨_, _, rfl, by omega, by omega, ho⟩
        · exact ⟨_, _, rfl, by omega, by omega, okC_int _⟩
      obtain ⟨x, hx⟩ := pair1 (c := c) (sh := sh) (cols := cols) (num := num) (bg := bg) (e9 := some (.d (.int ed))) (e10 := some (.d od)) hl h1 h2 q1 q2 q3 h12
      refine ⟨_, _, ?_, .inl hx, _, _, rfl, .inr ⟨_, rfl⟩, .inr ⟨_, rfl⟩⟩
      rcases h11 with rfl | ⟨q, rfl⟩ <;> rfl)
  exact ⟨e11, e12, sFor_ok it e⟩
theorem right10 {n : Nat} {L : List D} {e9 e10 e11 e12 : Option SV} (h : Bc n c) (hn : n < 400000) (hl : L.length ≤ 8) : ∃ (x : D) (c' : Cell), b_law_right_10 (rv c len sh cols num bg [some (.d (.lst L)), some (.d (.lst L)), e9, e10, e11, e12, none, none]) = some (.nx (rv c' len sh cols num bg [some (.d (.lst L)), some (.d (.lst L)), e9, e10, e11, e12, some (.d (.lst (L ++ [x]))), none])) ∧ okT x ∧ Bc (n + 1) c' := by
  obtain ⟨x, c1, e1, hx, b1⟩ := odd h (by omega)
  have ha : dAdd (.lst L) (.lst [x]) = some (.lst (L ++ [x])) := dAdd_l (by rw [List.length_singleton, sizeLine_eq]; omega)
  exact ⟨x, c1, by simp [b_law_right_10, mkF, up, sSeq, sIf, sE, mT, m2, mIxN, mNm, itemOf, M.bind, M.ret, M.opt, sSet, sOpt, setD, mB, mCons, mNil, mVar, sRetV, sRet, outs, outOf, mCall, rCons, rVar, rNil, mArV, callM, arsSV, arSV, slotsOf, putB, setCell, rvD, mBN, nmD, fz, mFz, mLst, mTup, mTru, mTruN, mTNot, mTOr, mTAnd, mIf, mOr, mAnd, mNot, dTru, m1, mSl, mPart, mNoPart, mM0, mM1, mComp, compL, inner, noCell, wipeE, restE, turnC, sFor, forL, turnL, mItems, itemsD, mItemsX, itemsX, mRng, sApp, lstAt, appAt, sAsg, gsTup, gsCons, gsNil, m2N, opAt, isSc, sRetF, sSetF, setO, mCallF, frC, mChain, rv, z1, e1, ha], hx, b1⟩
theorem right11 {xs : List D} {od : D} {e7 e8 e11 e12 : Option SV} (hl : xs.length < 900) (hT : ∀ x ∈ xs, okT x) (h1 : 1 ≤ len) (h2 : len ≤ 1000000) (g3 : -(2 ^ 199) < ed) (g4 : ed < 2 ^ 199) (ho : okC od) :
    b_law_right_11 (rv c len sh cols num bg [e7, e8, some (.d (.int ed)), some (.d od), e11, e12, some (.d (.lst xs)), none]) = some (.rt (.d (.bl true)) (rv c len sh cols num bg [e7, e8, some (.d (.int ed)), some (.d od), e11, e12, some (.d (.lst xs)), none])) := by
  obtain ⟨hp, h24, oc⟩ := ho
  obtain ⟨X, t1, t2, ok⟩ := both (d := .tup xs) (xs := xs) (sh := sh) (.inr rfl) hl hT hp h24 oc h1 h2 (show -(2 ^ 200) < ed by omega) (by omega)
  have hs := strict_refl 6 X ok
  have c1 : mCall m_law_told [] (rVar 5 (rCons (mB gTuple1 (mCons (mVar 13) mNil)) (rVar 9 (rVar 10 rNil)))) (rv c len sh cols num bg [e7, e8, some (.d (.int ed)), some (.d od), e11, e12, some (.d (.lst xs)), none]) = some (.ok X (rv c len sh cols num bg [e7, e8, some (.d (.int ed)), some (.d od), e11, e12, some (.d (.lst xs)), none])) := call_d [daysD len sh, .tup xs, .int ed, od] rfl t1
  have c2 : mCall m_law_due [] (rVar 13 (rVar 9 (rVar 10 (rVar 1 (rVar 2 rNil))))) (rv c len sh cols num bg [e7, e8, some (.d (.int ed)), some (.d od), e11, e12, some (.d (.lst xs)), none]) = some (.ok X (rv c len sh cols num bg [e7, e8, some (.d (.int ed)), some (.d od), e11, e12, some (.d (.lst xs)), none])) := call_d [.lst xs, .int ed, od, .int len, .int sh] rfl t2
  exact sRet_ok (call_d (m := m_law_is_strict 6) [X, X] (rCons_ok c1 (rCons_ok c2 rfl)) hs)
end
theorem right {n : Nat} {c : Cell} (h : Bc n c) (hn : n < 90000) : ∃ c', m_law_right [.bor c] = some (.ret (.d (.bl true)) [.bor c']) ∧ Bc (n + 500) c' := by
  obtain ⟨len, sh, c1, s1, h1, h2, h3, h4, b1⟩ := right1 h (by omega)
  obtain ⟨cols, num, c2, s2, k1, k2, k3, g1, g2, b2⟩ := right2 (len := len) (sh := sh) b1 (by omega)
  have s3 := right3 (c := c2) (cols := cols) h1 h2 h3 h4 g1 g2
  obtain ⟨ps, c4, s4, hps, b4⟩ := right4 (sh := sh) (cols := cols) (num := num) (bg := sh + num * len) b2 (by omega) h1 h2
  obtain ⟨qs, c5, s5, hqs, b5⟩ := right5 (sh := sh) (cols := cols) (num := num) (bg := sh + num * len) b4 (by omega) h1 h2 k1 k2 hps
  have s6 := right6 (c := c5) (len := len) (sh := sh) (cols := cols) (num := num) (bg := sh + num * len) (L := qs.map pD)
  obtain ⟨ed, c7, s7, g3, g4, b7⟩ := right7 (cols := cols) (num := num) (bg := sh + num * len) (L := qs.map pD) b5 (by omega) h1 h2 h3 h4
  obtain ⟨od, c8, s8, ho, b8⟩ := right8 (len := len) (sh := sh) (cols := cols) (num := num) (bg := sh + num * len) (ed := ed) (L := qs.map pD) b7 (by omega)
  obtain ⟨e11, e12, s9⟩ := right9 (c := c8) (sh := sh) (cols := cols) (bg := sh + num * len) hqs h1 h2 g1 g2 g3 g4 ho
  obtain ⟨x, c10, s10, hx, b10⟩ := right10 (len := len) (sh := sh) (cols := cols) (num := num) (bg := sh + num * len) (L := qs.map pD) (e9 := some (.d (.int ed))) (e10 := some (.d od)) (e11 := e11) (e12 := e12) b8 (by omega) (by simpa using hqs)
  have s11 := right11 (c := c10) (sh := sh) (cols := cols) (num := num) (bg := sh + num * len) (xs := qs.map pD ++ [x]) (e7 := some (.d (.lst (qs.map pD)))) (e8 := some (.d (.lst (qs.map pD)))) (e11 := e11) (e12 := e12) (by simp; omega) (fun y hy => by
    rcases List.mem_append.mp hy with hy | hy
    · exact pD_ok y hy
    · rw [List.mem_singleton.mp hy]
      exact hx) h1 h2 g3 g4 ho
  refine ⟨c10, mkF_rt (n := 1) (N := 15) (body := b_law_right) (args := [.bor c]) (ev := rv c10 len sh cols num (sh + num * len) [some (.d (.lst (qs.map pD))), some (.d (.lst (qs.map pD))), some (.d (.int ed)), some (.d od), e11, e12, some (.d (.lst (qs.map pD ++ [x]))), none]) rfl ?_, b10.mono (by omega)⟩
  exact (seq_nx s1).trans ((seq_nx s2).trans ((seq_nx s3).trans ((seq_nx s4).trans ((seq_nx s5).trans ((seq_nx s6).trans ((seq_nx s7).trans ((seq_nx s8).trans ((seq_nx s9).trans ((seq_nx s10).trans s11)))))))))
end Q
set_option Elab.async false
set_option linter.all false
set_option maxRecDepth 100000
set_option maxHeartbeats 1000000
namespace Q
open PySem
open PySem.Spec
open L2
open FL
def turnS : MS := sIf (mTNot (mTru (mCall m_law_right [] (rVar 2 rNil)))) (sRet (M.ret (.bl false))) (fun ev => some (.nx ev))
theorem turn1 {n : Nat} {c : Cell} {s e1 e3 : Option SV} (h : Bc n c) (hn : n < 90000) : ∃ c', turnS [s, e1, some (.own c), e3] = some (.nx [s, e1, some (.own c'), e3]) ∧ Bc (n + 500) c' := by
  obtain ⟨c', e, b⟩ := right h hn
  refine ⟨c', ?_, b⟩
  simp [turnS, mkF, up, sSeq, sIf, sE, mT, m2, mIxN, mNm, itemOf, M.bind, M.ret, M.opt, sSet, sOpt, setD, mB, mCons, mNil, mVar, sRetV, sRet, outs, outOf, mCall, rCons, rVar, rNil, mArV, callM, arsSV, arSV, slotsOf, putB, setCell, rvD, mBN, nmD, fz, mTNot, mTru, dTru, e]
theorem turns {n : Nat} {c : Cell} {s e1 e3 : Option SV} (h : Bc n c) (hn : n < 100) (h3 : Dt e3) : ∃ c' x, sFor (setD 3) (mRng rng1 (mCons (M.ret (.int 2)) mNil)) turnS [s, e1, some (.own c), e3] = some (.nx [s, e1, some (.own c'), x]) ∧ Dt x := by
  have items : mRng rng1 (mCons (M.ret (.int 2)) mNil) [s, e1, some (.own c), e3] = some (.ok ((List.range 2).map fun (i : Nat) => D.int (0 + (i : Int))) [s, e1, some (.own c), e3]) := mRng_ok rfl (rng1_n (n := 2) (by decide))
  obtain ⟨ev', q, c', x, rfl, hx, _⟩ := forL_inv (gs := setD 3) (cb := turnS) (J := fun i ev => ∃ c' x, ev = [s, e1, some (.own c'), x] ∧ Dt x ∧ Bc (n + 500 * i) c' ∧ i ≤ 2) (xs := (List.range 2).map fun (i : Nat) => D.int (0 + (i : Int))) (i := 0) (ev := [s, e1, some (.own c), e3])
    ⟨c, e3, rfl, h3, h, by decide⟩ (fun i x ev hx hj => by
      obtain ⟨c1, x1, rfl, hd, hb, hi⟩ := hj
      have hi' : i < 2 := by
        have := (List.getElem?_eq_some_iff.mp hx).1
        simpa using this
      obtain ⟨c2, q, b2⟩ := turn1 (s := s) (e1 := e1) (e3 := some (.d x)) hb (by omega)
      refine ⟨_, _, ?_, .inl q, c2, _, rfl, .inr ⟨_, rfl⟩, b2.mono (by omega), by omega⟩
      rcases hd with rfl | ⟨d, rfl⟩ <;> rfl)
  exact ⟨c', x, sFor_ok items q, hx⟩
def cellB : MS := (sSeq (sSetF 2 (mCallF m_law_bag [] (rVar 0 (rVar 1 rNil)))) (sFor (setD 3) (mRng rng1 (mCons (M.ret (.int 2)) mNil)) turnS))
theorem cell1 {ns : List Int} {i : Nat} {e2 e3 : Option SV} (hi : i < 12) (h2 : Ow e2) (h3 : Dt e3) : ∃ c' x, cellB [some (.d (.lst (ns.map D.int))), some (.d (.int (i : Int))), e2, e3] = some (.nx [some (.d (.lst (ns.map D.int))), some (.d (.int (i : Int))), some (.own c'), x]) ∧ Dt x := by
  obtain ⟨a, b, e, a0, b0, b1⟩ := bag (ns := ns) hi
  have hb : Bc 0 (.lst [.int a, .int b, .int 0]) := ⟨a, b, 0, rfl, a0, b0, b1, by omega, by omega⟩
  have t1 : sSetF 2 (mCallF m_law_bag [] (rVar 0 (rVar 1 rNil))) [some (.d (.lst (ns.map D.int))), some (.d (.int (i : Int))), e2, e3] = some (.nx [some (.d (.lst (ns.map D.int))), some (.d (.int (i : Int))), some (.own (.lst [.int a, .int b, .int 0])), e3]) := by
    rcases h2 with rfl | ⟨c0, rfl⟩ <;> simp [mkF, up, sSeq, sIf, sE, mT, m2, mIxN, mNm, itemOf, M.bind, M.ret, M.opt, sSet, sOpt, setD, mB, mCons, mNil, mVar, sRetV, sRet, outs, outOf, mCall, rCons, rVar, rNil, mArV, callM, arsSV, arSV, slotsOf, putB, setCell, rvD, mBN, nmD, fz, sSetF, setO, mCallF, frC, e]
  obtain ⟨c', x, q, hx⟩ := turns (s := some (.d (.lst (ns.map D.int)))) (e1 := some (.d (.int (i : Int)))) hb (by decide) h3
  refine ⟨c', x, ?_, hx⟩
  unfold cellB
  rw [seq_nx t1, q]
theorem cells {ns : List Int} (hl : ns.length ≤ 63) : ∃ e1 e2 e3, sFor (setD 1) (mRng rng1 (mCons (mB gMax2 (mCons (M.ret (.int 1)) (mCons (mB gMin2 (mCons (M.ret (.int 5)) (mCons (mBN gLen 0) mNil))) mNil))) mNil)) cellB [some (.d (.lst (ns.map D.int))), none, none, none] = some (.nx [some (.d (.lst (ns.map D.int))), e1, e2, e3]) := by
  have hlen : gLen [.lst (ns.map D.int)] = some (.int (ns.length : Int)) := by
    show (some ((ns.map D.int).length) : Option Nat).map (fun (n : Nat) => D.int (n : Int)) = _
    simp
  obtain ⟨k, hk, hk6⟩ : ∃ k : Nat, (if (if (ns.length : Int) < 5 then (ns.length : Int) else 5) > 1 then (if (ns.length : Int) < 5 then (ns.length : Int) else 5) else 1) = (k : Int) ∧ k ≤ 5 := by
    by_cases h1 : ns.length < 5
    · by_cases h2 : 1 < ns.length
      · exact ⟨ns.length, by rw [if_pos (show (ns.length : Int) < 5 by omega), if_pos (by omega)], by omega⟩
      · exact ⟨1, by rw [if_pos (show (ns.length : Int) < 5 by omega), if_neg (by omega)]; rfl, by omega⟩
    · exact ⟨5, by rw [if_neg (show ¬ (ns.length : Int) < 5 by omega), if_pos (by omega)]; rfl, by omega⟩
  have hmin : gMin2 [.int 5, .int (ns.length : Int)] = some (.int (if (ns.length : Int) < 5 then (ns.length : Int) else 5)) := rfl
  have hmax : gMax2 [.int 1, .int (if (ns.length : Int) < 5 then (ns.length : Int) else 5)] = some (.int (k : Int)) := by rw [← hk]; rfl
  have items : mRng rng1 (mCons (mB gMax2 (mCons (M.ret (.int 1)) (mCons (mB gMin2 (mCons (M.ret (.int 5)) (mCons (mBN gLen 0) mNil))) mNil))) mNil) [some (.d (.lst (ns.map D.int))), none, none, none] = some (.ok ((List.range k).map fun (i : Nat) => D.int (0 + (i : Int))) [some (.d (.lst (ns.map D.int))), none, none, none]) := by
    have a1 : mBN gLen 0 [some (.d (.lst (ns.map D.int))), none, none, none] = some (.ok (.int (ns.length : Int)) [some (.d (.lst (ns.map D.int))), none, none, none]) := by
      simp only [mBN, nmD, List.getElem?_cons_zero, hlen, isSc_i, if_true]
    exact mRng_ok (mCons_ok (mB_ok (mCons_ok rfl (mCons_ok (mB_ok (mCons_ok rfl (mCons_ok a1 rfl)) hmin) rfl)) hmax) rfl) (rng1_n (by omega))
  obtain ⟨ev', q, e1, e2, e3, rfl, _⟩ := forL_inv (gs := setD 1) (cb := cellB) (J := fun _ ev => ∃ e1 e2 e3, ev = [some (.d (.lst (ns.map D.int))), e1, e2, e3] ∧ Dt e1 ∧ Ow e2 ∧ Dt e3) (xs := (List.range k).map fun (i : Nat) => D.int (0 + (i : Int))) (i := 0) (ev := [some (.d (.lst (ns.map D.int))), none, none, none])
    ⟨none, none, none, rfl, .inl rfl, .inl rfl, .inl rfl⟩ (fun i x ev hx hj => by
      obtain ⟨e1, e2, e3, rfl, h1, h2, h3⟩ := hj
      have hi : i < k := by
        have := (List.getElem?_eq_some_iff.mp hx).1
        simpa using this
      have hxx : x = .int (i : Int) := by
        rw [List.getElem?_map, List.getElem?_range hi] at hx
        have := Option.some.inj hx
        rw [← this]
        simp
      subst hxx
      obtain ⟨c', y, q, hy⟩ := cell1 (ns := ns) (i := i) (by omega) h2 h3
      refine ⟨_, _, ?_, .inl q, _, _, _, rfl, .inr ⟨_, rfl⟩, .inr ⟨_, rfl⟩, hy⟩
      rcases h1 with rfl | ⟨d1, rfl⟩ <;> rfl)
  exact ⟨e1, e2, e3, sFor_ok items q⟩
theorem math0 (ns : List Int) (h : ns.length ≤ 63) : ∃ out, m_law [.d (.lst (ns.map D.int))] = some (.ret (.d (.bl true)) out) := by
  obtain ⟨e1, e2, e3, q⟩ := cells h
  refine ⟨[.d (.lst (ns.map D.int))], ?_⟩
  refine mkF_rt (n := 1) (N := 4) (body := b_law) (args := [.d (.lst (ns.map D.int))]) (r := .d (.bl true)) (ev := [some (.d (.lst (ns.map D.int))), e1, e2, e3]) rfl ?_
  show b_law [some (.d (.lst (ns.map D.int))), none, none, none] = _
  exact (seq_nx q).trans rfl
end Q
set_option Elab.async false
set_option linter.all false
set_option maxRecDepth 100000
set_option maxHeartbeats 0
namespace Q
open PySem
open PySem.Spec
open L2
open FL
def nm0 : List Str := [(Str.ofString "_wall"), (Str.ofString "BadMoment"), (Str.ofString "BadEnds"), (Str.ofString "BadItem"), (Str.ofString "BadDay"), (Str.ofString "BadColumns"), (Str.ofString "TooFar"), (Str.ofString "FIRST"), (Str.ofString "LAST"), (Str.ofString "MOST"), (Str.ofString "HALF"), (Str.ofString "Ends"), (Str.ofString "is_integer"), (Str.ofString "is_near"), (Str.ofString "is_edge"), (Str.ofString "is_moment"), (Str.ofString "is_pair"), (Str.ofString "is_stretch"), (Str.ofString "is_ends"), (Str.ofString "check_ends"), (Str.ofString "check_spans"), (Str.ofString "is_empty"), (Str.ofString "union"), (Str.ofString "LONGEST"), (Str.ofString "MOST_COLUMNS"), (Str.ofString "checked_edge"), (Str.ofString "held_between"), (Str.ofString "Days"), (Str.ofString "_law_bag"), (Str.ofString "_law_take")]
def nm1 : List Str := [(Str.ofString "_law_of"), (Str.ofString "_law_number"), (Str.ofString "_law_stretch"), (Str.ofString "_law_union"), (Str.ofString "_law_is_strict"), (Str.ofString "_law_is_near"), (Str.ofString "_law_is_edge"), (Str.ofString "_law_is_stretch"), (Str.ofString "_law_odd"), (Str.ofString "_law_days"), (Str.ofString "_law_overlap"), (Str.ofString "_law_ended"), (Str.ofString "_law_cells"), (Str.ofString "_law_columns"), (Str.ofString "_law_about"), (Str.ofString "_law_told"), (Str.ofString "_law_is_fit"), (Str.ofString "_law_due"), (Str.ofString "_law_by_columns"), (Str.ofString "_law_right")]
def loose : List Str := nm0 ++ nm1
abbrev Rw : PySem.W.OpenRow := PySem.W.OpenLaw.row PySem.Challenge.rw_spanloops_k91_days_drawn
abbrev hk : PySem.W.Hook := hookF 6 fa fn fx
def ob (s : PySem.W.SharedT) : AlF := obsF 6 fa fn fx (HandSHeadRun.getT s)
theorem ob_eq (s : PySem.W.SharedT) : ob s = hk.obs s.abs := obsF_eq (HandSHeadRun.getT_eq s)
theorem run (w : World) : HandSHeadRun.RunEq Rw (PySem.W.view Rw.prog [54]) hk ob 9000 loose w := by
  intro os
  kernel_rfl
theorem math (ns : List Int) (h : ns.length ≤ 63) : ∃ out, m_law [.d (.lst (ns.map D.int))] = some (.ret (.d (.bl true)) out) := by
  exact math0 ns h
end Q
open PySem
open PySem.W
open PySem.Calls
open PyProof.Rows
theorem PySem.Challenge.cw_spanloops_k91_days_drawn_holds : PySem.Challenge.rw_spanloops_k91_days_drawn.Holds := by
  w_on
  o_law
  refine HandSHeadRun.head_any (r := OpenLaw.row PySem.Challenge.rw_spanloops_k91_days_drawn) (q := view (OpenLaw.row PySem.Challenge.rw_spanloops_k91_days_drawn).prog [54]) (H := Q.hk) (ob := Q.ob) (M := 9000) (loose := Q.loose) (d := HandSHeadRun.topDef (OpenLaw.row PySem.Challenge.rw_spanloops_k91_days_drawn).prog 54) (kwd := []) Q.ob_eq
    (by kernel_rfl) (fun s => by kernel_rfl) Q.run (by kernel_rfl) (by kernel_rfl) (by kernel_rfl) (by rfl) (by first | assumption | decide +kernel) (by decide +kernel) ⟨rfl, rfl, rfl, rfl, rfl, by decide +kernel⟩ ?hw ?hc
  case hw => w_witness2
  case hc =>
    refine FL.walk_in (l := PySem.Challenge.rw_spanloops_k91_days_drawn) (k := 10) (y := "script") rfl (by kernel_rfl) ⟨rfl, by decide, by decide⟩ ?F
    intro w mg fa h Y G hmg0
    obtain ⟨K, KX, c⟩ := Y
    have hmg : mg ("law" : PySem.Str) = some (.ref fa) := by
      have e : (HandSHeadRun.topDef (OpenLaw.row PySem.Challenge.rw_spanloops_k91_days_drawn).prog 54).name = ("law" : PySem.Str) := by kernel_rfl
      rw [← e]
      exact hmg0
    exact FL.law_end (P := (PySem.Challenge.rw_spanloops_k91_days_drawn).prog) (w := w) (y := "script") KX hmg (He.glo_ok KX G (c.d.fact 72 (f := .glo "law") rfl)) (fun base => Q.e_law (base := base) KX G c) (fun _ _ _ _ _ _ us hl => match us, hl with | [_], _ => rfl) Q.math
