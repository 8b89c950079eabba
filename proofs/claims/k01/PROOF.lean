import PyProof.Rows.All
import Wide.All
import OpenK.AllK
import Wide.FinOn
import HandS.ForMost
import HandS.Walk
import HandS.IsInst
import HandS.TupMul
import HandS.TupAny
import HandS.Wide
import HandS.WideBits
import HandS.Zip
import HandS.Style
import HandS.Deep
import KE.SortData
import KE.SortKeyHeap
import KE.DataMinMax
import PyProof.ListMulRoad
import PyProof.FactsAll.tuple_2
import HandS.TupLe
import KE.GoesEnum
import KE.GoesMore
import HandS.RevRange
import HandS.Conv
import KE.DataAny
import PyProof.Claim2Refuses
import PyProof.StrOps2
import HandS.Text
import HandS.Sort
import HandS.Dict
import PySem.Challenge.RW_voicescarried_k01_whole_spurts
set_option Elab.async false
set_option linter.all false
set_option maxRecDepth 100000
set_option autoImplicit false
section
/-! A mirror layer: a def's text read as a plain function over PyData; what a caller sees of a def is that function alone. -/
open PySem PySem.Spec PyProof.Rows
namespace L2
mutual
/-- data that stands in H: lists tracked, tuples tracked or written -/
inductive Rp (K : PySem.W.Frag) (H : Hp) : V → PyData → Prop
  | non : Rp K H .non .none
  | bl (b : Bool) : Rp K H (.bl b) (.bool b)
  | int (i : Int) : Rp K H (.int i) (.int i)
  | str (x : Str) : Rp K H (.str x) (.str x)
  | lst {a : Addr} {xs : List V} {ds : List PyData} : H a = some (.lst xs) → RpAll K H xs ds → Rp K H (.ref a) (.list ds)
  | tup {a : Addr} {xs : List V} {ds : List PyData} : SqT K H a xs → RpAll K H xs ds → Rp K H (.ref a) (.tuple ds)
  /-- the script: a list of ints that is only read -/
  | scr {a : Addr} {ns : List Int} : SqL K H a (ns.map V.int) → Rp K H (.ref a) (.dict [(.none, .list (ns.map PyData.int))])
inductive RpAll (K : PySem.W.Frag) (H : Hp) : List V → List PyData → Prop
  | nil : RpAll K H [] []
  | cons {v : V} {vs : List V} {d : PyData} {ds : List PyData} : Rp K H v d → RpAll K H vs ds → RpAll K H (v :: vs) (d :: ds)
end
section
variable {K : PySem.W.Frag} {H : Hp}
mutual
theorem Rp.dp : ∀ {d : PyData} {v : V}, Rp K H v d → d.canLay0 = true → Dp K H v d
  | .none, _, h, _ => by cases h; exact .non
  | .bool b, _, h, _ => by cases h; exact .bl b
  | .int i, _, h, _ => by cases h; exact .int i
  | .str x, _, h, _ => by cases h; exact .str x
  | .list ds, _, h, c => by
    cases h with
    | lst hs ha => exact .lst (SqL.of hs) (RpAll.dp ha (by simpa [PyData.canLay0] using c))
  | .tuple ds, _, h, c => by
    cases h with
    | tup hs ha => exact .tup hs (RpAll.dp ha (by simpa [PyData.canLay0] using c))
  | .dict _, _, h, c => by simp [PyData.canLay0] at c
theorem RpAll.dp : ∀ {ds : List PyData} {vs : List V}, RpAll K H vs ds → PyData.canLayAll0 ds = true → DpAll K H vs ds
  | [], _, h, _ => by cases h; exact .nil
  | d :: ds, _, h, c => by
    cases h with
    | cons h1 h2 =>
      have c' : d.canLay0 = true ∧ PyData.canLayAll0 ds = true := by simpa [PyData.canLayAll0] using c
      exact .cons (Rp.dp h1 c'.1) (RpAll.dp h2 c'.2)
end
end
section
variable {K : PySem.W.Frag} {F F' F1 F2 H H' H1 H2 : Hp}
theorem rd_same {a : Addr} {u : HO} (e : Same H H') (h : Rd H a u) : Rd H' a u := by
  rcases h with h | ⟨o, h⟩
  · exact .inl (e a _ h)
  · exact .inr ⟨o, e a _ h⟩
theorem same_l {a : Addr} {xs : List V} (e : Same H H') (h : SqL K H a xs) : SqL K H' a xs := h.elim (fun h => .inl (rd_same e h)) .inr
theorem same_t {a : Addr} {xs : List V} (e : Same H H') (h : SqT K H a xs) : SqT K H' a xs := h.elim (fun h => .inl (rd_same e h)) .inr
mutual
theorem dp_same (e : Same H H') : ∀ (d : PyData) (v : V), Rp K H v d → Rp K H' v d
  | .none, _, h => by cases h; exact .non
  | .bool b, _, h => by cases h; exact .bl b
  | .int i, _, h => by cases h; exact .int i
  | .str x, _, h => by cases h; exact .str x
  | .list ds, _, h => by
    cases h with
    | lst hs ha => exact .lst (e _ _ hs) (dpa_same e ds _ ha)
  | .tuple ds, _, h => by
    cases h with
    | tup hs ha => exact .tup (same_t e hs) (dpa_same e ds _ ha)
  | .dict _, _, h => by
    cases h with
    | scr h => exact .scr (same_l e h)
theorem dpa_same (e : Same H H') : ∀ (ds : List PyData) (vs : List V), RpAll K H vs ds → RpAll K H' vs ds
  | [], _, h => by cases h; exact .nil
  | d :: ds, _, h => by
    cases h with
    | cons h1 h2 => exact .cons (dp_same e d _ h1) (dpa_same e ds _ h2)
end
theorem Rp.up {v : V} {d : PyData} (h : Rp K H v d) (e : Same H H') : Rp K H' v d := dp_same e d v h
theorem RpAll.up {vs : List V} {ds : List PyData} (h : RpAll K H vs ds) (e : Same H H') : RpAll K H' vs ds := dpa_same e ds vs h
theorem RpAll.length : ∀ {vs : List V} {ds : List PyData}, RpAll K H vs ds → vs.length = ds.length
  | _, _, .nil => rfl
  | _, _, .cons _ t => by rw [List.length_cons, List.length_cons, RpAll.length t]
theorem RpAll.append : ∀ {vs ws : List V} {ds es : List PyData}, RpAll K H vs ds → RpAll K H ws es → RpAll K H (vs ++ ws) (ds ++ es)
  | _, _, _, _, .nil, h => h
  | _, _, _, _, .cons a t, h => .cons a (RpAll.append t h)
theorem RpAll.get : ∀ {vs : List V} {ds : List PyData} {i : Nat} {d : PyData}, RpAll K H vs ds → ds[i]? = some d → ∃ v, vs[i]? = some v ∧ Rp K H v d
  | _, _, _, _, .nil, e => by simp at e
  | _, _, 0, _, .cons a t, e => by simp at e; subst e; exact ⟨_, rfl, a⟩
  | _, _, i + 1, d, .cons a t, e => by
    obtain ⟨v, h1, h2⟩ := RpAll.get (i := i) (d := d) t (by simpa using e)
    exact ⟨v, by simpa using h1, h2⟩
theorem RpAll.get' : ∀ {vs : List V} {ds : List PyData} {i : Nat} {v : V}, RpAll K H vs ds → vs[i]? = some v → ∃ d, ds[i]? = some d ∧ Rp K H v d
  | _, _, _, _, .nil, e => by simp at e
  | _, _, 0, _, .cons a t, e => by simp at e; subst e; exact ⟨_, rfl, a⟩
  | _, _, i + 1, d, .cons a t, e => by
    obtain ⟨v, h1, h2⟩ := RpAll.get' (i := i) (v := d) t (by simpa using e)
    exact ⟨v, by simpa using h1, h2⟩
theorem RpAll.take : ∀ {vs : List V} {ds : List PyData} (n : Nat), RpAll K H vs ds → RpAll K H (vs.take n) (ds.take n)
  | _, _, 0, _ => .nil
  | _, _, _ + 1, .nil => .nil
  | _, _, n + 1, .cons a t => .cons a (RpAll.take n t)
theorem RpAll.drop : ∀ {vs : List V} {ds : List PyData} (n : Nat), RpAll K H vs ds → RpAll K H (vs.drop n) (ds.drop n)
  | _, _, 0, h => h
  | _, _, _ + 1, .nil => .nil
  | _, _, n + 1, .cons _ t => RpAll.drop n t
theorem RpAll.set {v : V} {d : PyData} (r : Rp K H v d) : ∀ {vs : List V} {ds : List PyData} (i : Nat), RpAll K H vs ds → RpAll K H (vs.set i v) (ds.set i d)
  | _, _, _, .nil => .nil
  | _, _, 0, .cons _ t => .cons r t
  | _, _, i + 1, .cons q t => .cons q (RpAll.set r i t)

end
end L2

namespace Mi
open L2
abbrev St := L2.St

abbrev D := PyData
/-- what a slot holds: nothing known; data that stands still; a list or dict of its own; an object -/
inductive Sl where
  | no
  | fr (d : D)
  | ow (d : D)
  | ob (c : Nat) (d : D)
abbrev Ev := List Sl
/-- kinds of objects, told by what stands in the heap -/
structure ORel where
  rel : Nat → D → Hp → Hp → (Addr → Prop) → Addr → Prop
  mono : ∀ {c d F F' H H' S a}, rel c d F H S a → Same F F' → (∀ b, S b → H' b = H b) → rel c d F' H' S a
  wide : ∀ {c d F H S S' a}, rel c d F H S a → (∀ b, S b → S' b) → rel c d F H S' a
  /-- its address is part of what is told -/
  key : D → Nat
  det : ∀ {c d F H S a}, rel c d F H S a → a = key d

section
variable {K : PySem.W.Frag} {F F' F1 F2 H H' H1 H2 : Hp}

/-- more stands still, more is tracked -/
structure Ext (F H F' H' : Hp) : Prop where
  ff : Same F F'
  fh : Same F' H'
  hh : Same H H'
  nw : ∀ a, F' a ≠ none → F a ≠ none ∨ H a = none
theorem Ext.refl (h : Same F H) : Ext F H F H := ⟨Same.refl _, h, Same.refl _, fun _ h => .inl h⟩
theorem ne_up (e : Same H H') {a : Addr} (h : H a ≠ none) : H' a ≠ none := by
  cases q : H a with
  | none => exact absurd q h
  | some o => rw [e a o q]; exact fun z => nomatch z
theorem Ext.trans (a : Ext F H F1 H1) (b : Ext F1 H1 F2 H2) : Ext F H F2 H2 := ⟨a.ff.trans b.ff, b.fh, a.hh.trans b.hh, fun p h => by
  rcases b.nw p h with h | h
  · exact a.nw p h
  · refine .inr ?_
    cases q : H p with
    | none => rfl
    | some o => rw [a.hh p o q] at h; cases h⟩
/-- a new object, standing still -/
theorem Ext.new {p : Addr} {o : HO} (h : Same F H) (n : H p = none) : Ext F H (upd F p o) (upd H p o) := by
  have nf : F p = none := h.free n
  refine ⟨fun a u e => by rw [upd_ne (ne_of_none e nf)]; exact e, fun a u e => ?_, fun a u e => by rw [upd_ne (ne_of_none e n)]; exact e, fun a e => ?_⟩
  · by_cases q : a = p
    · subst q; rw [upd_same] at e ⊢; exact e
    · rw [upd_ne q] at e ⊢; exact h a u e
  · by_cases q : a = p
    · subst q; exact .inr n
    · rw [upd_ne q] at e; exact .inl e
/-- a new object that is not to stand still -/
theorem Ext.newM {p : Addr} {o : HO} (h : Same F H) (n : H p = none) : Ext F H F (upd H p o) :=
  ⟨Same.refl _, fun a u e => by rw [upd_ne (ne_of_none (h a u e) n)]; exact h a u e, fun a u e => by rw [upd_ne (ne_of_none e n)]; exact e, fun a e => .inl e⟩

/-- what is read now: data that stands still, or a list that may change later -/
def Tr (K : PySem.W.Frag) (F H : Hp) (v : V) (d : D) : Prop := Rp K F v d ∨ ∃ a vs ds, v = .ref a ∧ d = .list ds ∧ H a = some (.lst vs) ∧ RpAll K F vs ds
/-- keys and values of a dict of one's own -/
def kD : Key → D
  | .inl i => .int i
  | .inr x => .str x
def KvR (K : PySem.W.Frag) (F : Hp) : List (Key × V) → List (D × D) → Prop := Paired fun p q => q.1 = kD p.1 ∧ Rp K F p.2 q.2
/-- a list or dict of one's own, its objects within S -/
def Own (K : PySem.W.Frag) (F H : Hp) (S : Addr → Prop) (v : V) (d : D) : Prop :=
  (∃ a vs ds, v = .ref a ∧ d = .list ds ∧ S a ∧ H a = some (.lst vs) ∧ RpAll K F vs ds) ∨ ∃ a kvs es, v = .ref a ∧ d = .dict es ∧ S a ∧ H a = some (.dK kvs) ∧ KvR K F kvs es
theorem KvR.up {kvs : List (Key × V)} {es : List (D × D)} (h : KvR K F kvs es) (e : Same F F') : KvR K F' kvs es := Paired.mapP h fun p q z => ⟨z.1, z.2.up e⟩
theorem Own.up {S : Addr → Prop} {v : V} {d : D} (h : Own K F H S v d) (e : Same F F') (k : ∀ a, S a → H' a = H a) : Own K F' H' S v d := by
  rcases h with ⟨a, vs, ds, h1, h2, h3, h4, h5⟩ | ⟨a, vs, ds, h1, h2, h3, h4, h5⟩
  · exact .inl ⟨a, vs, ds, h1, h2, h3, (k a h3).trans h4, h5.up e⟩
  · exact .inr ⟨a, vs, ds, h1, h2, h3, (k a h3).trans h4, h5.up e⟩
theorem Own.wide {S S' : Addr → Prop} {v : V} {d : D} (h : Own K F H S v d) (k : ∀ a, S a → S' a) : Own K F H S' v d := by
  rcases h with ⟨a, vs, ds, h1, h2, h3, h4⟩ | ⟨a, vs, ds, h1, h2, h3, h4⟩
  · exact .inl ⟨a, vs, ds, h1, h2, k a h3, h4⟩
  · exact .inr ⟨a, vs, ds, h1, h2, k a h3, h4⟩

/-- what a slot's value is -/
def VR (K : PySem.W.Frag) (R : ORel) (F H : Hp) (S : Addr → Prop) (v : V) : Sl → Prop
  | .no => True
  | .fr d => Rp K F v d
  | .ow d => Own K F H S v d
  | .ob c d => ∃ a, v = .ref a ∧ S a ∧ R.rel c d F H S a
theorem VR.up {R : ORel} {S : Addr → Prop} {v : V} : ∀ {s : Sl}, VR K R F H S v s → Same F F' → (∀ a, S a → H' a = H a) → VR K R F' H' S v s
  | .no, _, _, _ => trivial
  | .fr _, h, e, _ => Rp.up h e
  | .ow _, h, e, k => Own.up h e k
  | .ob _ _, ⟨a, h1, h2, h3⟩, e, k => ⟨a, h1, h2, R.mono h3 e k⟩
theorem VR.wide {R : ORel} {S S' : Addr → Prop} {v : V} (k : ∀ a, S a → S' a) : ∀ {s : Sl}, VR K R F H S v s → VR K R F H S' v s
  | .no, _ => trivial
  | .fr _, h => h
  | .ow _, h => Own.wide h k
  | .ob _ _, ⟨a, h1, h2, h3⟩ => ⟨a, h1, k a h2, R.wide h3 k⟩
end

/-- a def's entry: what stood still, what was tracked, what may be changed of it -/
structure Bs where
  F : Hp
  H : Hp
  S : Addr → Prop

def slotAt (σ : St) (i : Nat) (P : V → Prop) : Sl → Prop
  | .no => True
  | s => ∃ v, σ[i]? = some (some v) ∧ P v

/-- the state of a def's run: F stands still, w tells whose an address is -/
structure WF (K : PySem.W.Frag) (R : ORel) (B : Bs) (F : Hp) (w : Addr → Option Nat) (ρ : Ev) (σ : St) (H : Hp) : Prop where
  fh : Same F H
  f0 : Same B.F F
  fn : ∀ a, F a ≠ none → B.F a ≠ none ∨ B.H a = none
  wf : ∀ a i, w a = some i → F a = none ∧ H a ≠ none ∧ (B.H a = none ∨ (B.S a ∧ i = 0))
  keep : ∀ a, ¬ B.S a → ∀ o, B.H a = some o → H a = some o
  dom : ∀ a, B.H a ≠ none → H a ≠ none
  len : σ.length = ρ.length
  sl : ∀ i s, ρ[i]? = some s → slotAt σ i (fun v => VR K R F H (fun a => w a = some i) v s) s

section
variable {K : PySem.W.Frag} {R : ORel} {B : Bs} {F F' H H' : Hp} {w w' : Addr → Option Nat} {ρ ρ' : Ev} {σ : St}

theorem slotAt.imp {i : Nat} {P Q : V → Prop} : ∀ {s : Sl}, slotAt σ i P s → (∀ v, P v → Q v) → slotAt σ i Q s
  | .no, _, _ => trivial
  | .fr _, ⟨v, e, h⟩, k => ⟨v, e, k v h⟩
  | .ow _, ⟨v, e, h⟩, k => ⟨v, e, k v h⟩
  | .ob _ _, ⟨v, e, h⟩, k => ⟨v, e, k v h⟩

theorem WF.ext (W : WF K R B F w ρ σ H) (E : Ext F H F' H') : WF K R B F' w ρ σ H' := by
  refine ⟨E.fh, W.f0.trans E.ff, fun a h => ?_, fun a i h => ?_, fun a ns o h => E.hh a o (W.keep a ns o h), fun a h => ne_up E.hh (W.dom a h), W.len, fun i s h => ?_⟩
  · rcases E.nw a h with h | h
    · exact W.fn a h
    · refine .inr ?_
      cases q : B.H a with
      | none => rfl
      | some o => exact absurd h (W.dom a (by rw [q]; exact fun z => nomatch z))
  · obtain ⟨h1, h2, h3⟩ := W.wf a i h
    refine ⟨?_, ne_up E.hh h2, h3⟩
    cases q : F' a with
    | none => rfl
    | some o =>
      rcases E.nw a (by rw [q]; exact fun z => nomatch z) with z | z
      · exact absurd h1 z
      · exact absurd z h2
  · refine (W.sl i s h).imp fun v z => z.up E.ff fun a ha => ?_
    have h2 := (W.wf a i ha).2.1
    cases q : H a with
    | none => exact absurd q h2
    | some o => exact E.hh a o q

/-- the data of a slot that stands still -/
def getF (i : Nat) (ρ : Ev) : Option D := match ρ[i]? with
  | some (.fr d) => some d
  | _ => none
/-- the data of a slot, read now -/
def getT (i : Nat) (ρ : Ev) : Option D := match ρ[i]? with
  | some (.fr d) => some d
  | some (.ow (.list ds)) => some (.list ds)
  | _ => none
theorem WF.getF {i : Nat} {d : D} (W : WF K R B F w ρ σ H) (h : Mi.getF i ρ = some d) : ∃ v, σ[i]? = some (some v) ∧ Rp K F v d := by
  unfold Mi.getF at h
  split at h
  · rename_i e he
    cases h
    exact W.sl i _ he
  · cases h
theorem WF.getT {i : Nat} {d : D} (W : WF K R B F w ρ σ H) (h : Mi.getT i ρ = some d) : ∃ v, σ[i]? = some (some v) ∧ Tr K F H v d := by
  unfold Mi.getT at h
  split at h
  · rename_i e he
    cases h
    obtain ⟨v, h1, h2⟩ := W.sl i _ he
    exact ⟨v, h1, .inl h2⟩
  · rename_i e he
    cases h
    obtain ⟨v, h1, h2⟩ := W.sl i _ he
    refine ⟨v, h1, .inr ?_⟩
    rcases h2 with ⟨a, vs, ds, e1, e2, _, e4, e5⟩ | ⟨_, _, _, _, e2, _⟩
    · cases e2; exact ⟨a, vs, _, e1, rfl, e4, e5⟩
    · cases e2
  · cases h

theorem Tr.up {v : V} {d : D} (h : Tr K F H v d) (E : Ext F H F' H') : Tr K F' H' v d := by
  rcases h with h | ⟨a, vs, ds, h1, h2, h3, h4⟩
  · exact .inl (h.up E.ff)
  · exact .inr ⟨a, vs, ds, h1, h2, E.hh a _ h3, h4.up E.ff⟩
theorem Tr.rp {v : V} {d : D} (h : Tr K F H v d) (e : Same F H) : Rp K H v d := by
  rcases h with h | ⟨a, vs, ds, rfl, rfl, h3, h4⟩
  · exact h.up e
  · exact .lst h3 (h4.up e)
theorem Tr.list {v : V} {ds : List D} (h : Tr K F H v (.list ds)) (e : Same F H) : ∃ a vs, v = .ref a ∧ H a = some (.lst vs) ∧ RpAll K F vs ds := by
  rcases h with h | ⟨a, vs, ds, rfl, q, h3, h4⟩
  · cases h with
    | lst hs ha => exact ⟨_, _, rfl, e _ _ hs, ha⟩
  · cases q; exact ⟨a, vs, rfl, h3, h4⟩
theorem Tr.tuple {v : V} {ds : List D} (h : Tr K F H v (.tuple ds)) (e : Same F H) : ∃ a vs, v = .ref a ∧ SqT K H a vs ∧ RpAll K F vs ds := by
  rcases h with h | ⟨a, vs, ds, rfl, q, h3, h4⟩
  · cases h with
    | tup hs ha => exact ⟨_, _, rfl, same_t e hs, ha⟩
  · cases q
theorem Tr.int {v : V} {i : Int} (h : Tr K F H v (.int i)) : v = .int i := by
  rcases h with h | ⟨a, vs, ds, rfl, q, h3, h4⟩
  · cases h; rfl
  · cases q
theorem Tr.bl {v : V} {b : Bool} (h : Tr K F H v (.bool b)) : v = .bl b := by
  rcases h with h | ⟨a, vs, ds, rfl, q, h3, h4⟩
  · cases h; rfl
  · cases q
theorem Tr.str {v : V} {x : Str} (h : Tr K F H v (.str x)) : v = .str x := by
  rcases h with h | ⟨a, vs, ds, rfl, q, h3, h4⟩
  · cases h; rfl
  · cases q
theorem Tr.non {v : V} (h : Tr K F H v .none) : v = .non := by
  rcases h with h | ⟨a, vs, ds, rfl, q, h3, h4⟩
  · cases h; rfl
  · cases q

/-- what an evaluation leaves that may change what is one's own -/
structure ExE (F : Hp) (w : Addr → Option Nat) (H F' : Hp) (w' : Addr → Option Nat) (H' : Hp) : Prop where
  ff : Same F F'
  hk : ∀ a o, H a = some o → w a = none → H' a = some o
  hd : ∀ a, H a ≠ none → H' a ≠ none
  nf : ∀ a, F' a ≠ none → F a ≠ none ∨ w a ≠ none ∨ H a = none
  nw : ∀ a, w' a ≠ none → w a ≠ none ∨ H a = none
theorem ExE.refl : ExE F w H F w H := ⟨Same.refl _, fun _ _ h _ => h, fun _ h => h, fun _ h => .inl h, fun _ h => .inl h⟩
theorem ExE.trans {F2 H2 : Hp} {w2 : Addr → Option Nat} (x : ExE F w H F' w' H') (y : ExE F' w' H' F2 w2 H2) : ExE F w H F2 w2 H2 := by
  have back : ∀ a, H' a = none → H a = none := fun a h => by
    cases q : H a with
    | none => rfl
    | some o => exact absurd h (x.hd a (by rw [q]; exact fun z => nomatch z))
  refine ⟨x.ff.trans y.ff, fun a o h n => ?_, fun a h => y.hd a (x.hd a h), fun a h => ?_, fun a h => ?_⟩
  · refine y.hk a o (x.hk a o h n) ?_
    cases q : w' a with
    | none => rfl
    | some i =>
      rcases x.nw a (by rw [q]; exact fun z => nomatch z) with z | z
      · exact absurd n z
      · rw [h] at z; cases z
  · rcases y.nf a h with h | h | h
    · exact x.nf a h
    · rcases x.nw a h with h | h
      · exact .inr (.inl h)
      · exact .inr (.inr h)
    · exact .inr (.inr (back a h))
  · rcases y.nw a h with h | h
    · exact x.nw a h
    · exact .inr (back a h)
theorem Ext.exE (E : Ext F H F' H') : ExE F w H F' w H' := ⟨E.ff, fun a o h _ => E.hh a o h, fun a h => ne_up E.hh h, fun a h => (E.nw a h).imp id .inr, fun a h => .inl h⟩
/-! ### the judgements -/
/-- data that stands still | data read now | something new, one's own -/
def tF (K : PySem.W.Frag) (R : ORel) (m : Ev → Option D) : TE := fun σ H Q => ∃ B F w ρ d, WF K R B F w ρ σ H ∧ m ρ = some d ∧ ∀ v F' H', Ext F H F' H' → Rp K F' v d → Q v H'
def tT (K : PySem.W.Frag) (R : ORel) (m : Ev → Option D) : TE := fun σ H Q => ∃ B F w ρ d, WF K R B F w ρ σ H ∧ m ρ = some d ∧ ∀ v F' H', Ext F H F' H' → Tr K F' H' v d → Q v H'
def tN (K : PySem.W.Frag) (R : ORel) (m : Ev → Option D) : TE := fun σ H Q => ∃ B F w ρ d, WF K R B F w ρ σ H ∧ m ρ = some d ∧ ∀ v (S : Addr → Prop) F' H', Ext F H F' H' → Own K F' H' S v d → (∀ a, S a → H a = none ∧ F' a = none ∧ H' a ≠ none) → Q v H'
/-- with a change of what is one's own -/
def tE (K : PySem.W.Frag) (R : ORel) (m : Ev → Option (D × Ev)) : TE := fun σ H Q => ∃ B F w ρ d ρ', WF K R B F w ρ σ H ∧ m ρ = some (d, ρ') ∧ ∀ v F' w' H', WF K R B F' w' ρ' σ H' → ExE F w H F' w' H' → Rp K F' v d → Q v H'
/-- tests -/
def tB (K : PySem.W.Frag) (R : ORel) (m : Ev → Option Bool) : TT := fun σ H Q => ∃ B F w ρ b, WF K R B F w ρ σ H ∧ m ρ = some b ∧ ∀ F' H', Ext F H F' H' → Q b H'
def tBE (K : PySem.W.Frag) (R : ORel) (m : Ev → Option (Bool × Ev)) : TT := fun σ H Q => ∃ B F w ρ b ρ', WF K R B F w ρ σ H ∧ m ρ = some (b, ρ') ∧ ∀ F' w' H', WF K R B F' w' ρ' σ H' → ExE F w H F' w' H' → Q b H'
/-- arguments -/
def tAF (K : PySem.W.Frag) (R : ORel) (m : Ev → Option (List D)) : TA := fun σ H Q => ∃ B F w ρ ds, WF K R B F w ρ σ H ∧ m ρ = some ds ∧ ∀ vs F' H', Ext F H F' H' → RpAll K F' vs ds → Q vs H'
def tAE (K : PySem.W.Frag) (R : ORel) (m : Ev → Option (List D × Ev)) : TA := fun σ H Q => ∃ B F w ρ ds ρ', WF K R B F w ρ σ H ∧ m ρ = some (ds, ρ') ∧ ∀ vs F' w' H', WF K R B F' w' ρ' σ H' → ExE F w H F' w' H' → RpAll K F' vs ds → Q vs H'
/-- a statement's end -/
inductive Out where
  | nx (ρ : Ev)
  | rt (d : D) (ρ : Ev)
  | bk (ρ : Ev)
  | ct (ρ : Ev)
def Ende (K : PySem.W.Frag) (R : ORel) (B : Bs) (F : Hp) (E : Ends) : Out → Prop
  | .nx ρ => ∀ F' w' σ' H', WF K R B F' w' ρ σ' H' → Same F F' → E.nx σ' H'
  | .bk ρ => ∀ F' w' σ' H', WF K R B F' w' ρ σ' H' → Same F F' → E.bk σ' H'
  | .ct ρ => ∀ F' w' σ' H', WF K R B F' w' ρ σ' H' → Same F F' → E.ct σ' H'
  | .rt d ρ => ∀ v F' w' σ' H', WF K R B F' w' ρ σ' H' → Same F F' → Rp K F' v d → E.rt v H'
def tS (K : PySem.W.Frag) (R : ORel) (m : Ev → Option Out) : TS := fun E σ H => ∃ B F w ρ o, WF K R B F w ρ σ H ∧ m ρ = some o ∧ Ende K R B F E o
end

theorem _root_.L2.PE.imp {X : Cx} {e : Expr} {t t' : TE} (h : PE X e t) (k : ∀ σ H Q, t' σ H Q → t σ H Q) : PE X e t' := ⟨fun pins s σ H Q I q => h.run pins s σ H Q I (k σ H Q q)⟩
theorem _root_.L2.PT.imp {X : Cx} {e : Expr} {t t' : TT} (h : PT X e t) (k : ∀ σ H Q, t' σ H Q → t σ H Q) : PT X e t' := ⟨fun pins s σ H Q I q => h.run pins s σ H Q I (k σ H Q q)⟩
theorem _root_.L2.PA.imp {X : Cx} {e : List Expr} {t t' : TA} (h : PA X e t) (k : ∀ σ H Q, t' σ H Q → t σ H Q) : PA X e t' := ⟨fun pos pins s σ H Q I q => h.run pos pins s σ H Q I (k σ H Q q)⟩
theorem _root_.L2.PS.imp {X : Cx} {e : Stmt} {t t' : TS} (h : PS X e t) (k : ∀ E σ H, t' E σ H → t E σ H) : PS X e t' := ⟨fun pins s σ H E I q => h.run pins s σ H E I (k E σ H q)⟩
theorem _root_.L2.PSs.imp {X : Cx} {e : List Stmt} {t t' : TS} (h : PSs X e t) (k : ∀ E σ H, t' E σ H → t E σ H) : PSs X e t' := ⟨fun pins s σ H E I q => h.run pins s σ H E I (k E σ H q)⟩
end Mi

end
section
open PySem PySem.Spec PyProof.Rows
namespace Mi
open L2
abbrev LL : Nat := 16777216
theorem ll_line : sizeLine = LL := sizeLine_eq

section
variable {X : Cx} {R : ORel} {e a b c : Expr} {m ma mb mc : Ev → Option D} {pos : Pos}

/-! ### names, constants -/
theorem pf_var (i : Nat) {x : Str} {pos : Pos} (hN : X.N[i]? = some x := by rfl) (hv : Vis X.env.scope x := by first | exact Or.inl rfl | exact Or.inr (Or.inl rfl) | exact Or.inr (Or.inr rfl)) (hd : (x == ("__debug__" : Str)) = false := by decide)
    (hcd : (x == ("__classdict__" : Str)) = false := by decide) : PE X (.Name x pos) (tF X.K R (getF i)) :=
  (pe_var hN hv hd hcd).imp fun σ H Q ⟨B, F, w, ρ, d, W, h, q⟩ => by
    obtain ⟨v, h1, h2⟩ := W.getF h
    exact ⟨v, h1, q v F H (.refl W.fh) h2⟩
theorem pt_var (i : Nat) {x : Str} {pos : Pos} (hN : X.N[i]? = some x := by rfl) (hv : Vis X.env.scope x := by first | exact Or.inl rfl | exact Or.inr (Or.inl rfl) | exact Or.inr (Or.inr rfl)) (hd : (x == ("__debug__" : Str)) = false := by decide)
    (hcd : (x == ("__classdict__" : Str)) = false := by decide) : PE X (.Name x pos) (tT X.K R (getT i)) :=
  (pe_var hN hv hd hcd).imp fun σ H Q ⟨B, F, w, ρ, d, W, h, q⟩ => by
    obtain ⟨v, h1, h2⟩ := W.getT h
    exact ⟨v, h1, q v F H (.refl W.fh) h2⟩
/-- standing still, so it may be read -/
theorem ft (h : PE X e (tF X.K R m)) : PE X e (tT X.K R m) := h.imp fun σ H Q ⟨B, F, w, ρ, d, W, h, q⟩ => ⟨B, F, w, ρ, d, W, h, fun v F' H' E r => q v F' H' E (.inl r)⟩
def tCD (K : PySem.W.Frag) (R : ORel) (d : D) : TE := tF K R fun _ => some d
theorem pf_con {v : V} {d : D} (h : PE X e (tC v)) (r : ∀ F, Rp X.K F v d) : PE X e (tF X.K R fun _ => some d) := h.imp fun σ H Q ⟨B, F, w, ρ, d', W, h, q⟩ => by
  cases h
  exact q v F H (.refl W.fh) (r F)
theorem pf_int {i : Int} {j pos} : PE X (.Constant (.int i) j pos) (tF X.K R fun _ => some (.int i)) := pf_con pe_int fun _ => .int i
theorem pf_bl {i : Bool} {j pos} : PE X (.Constant (.bool i) j pos) (tF X.K R fun _ => some (.bool i)) := pf_con pe_bl fun _ => .bl i
theorem pf_non {j pos} : PE X (.Constant .none j pos) (tF X.K R fun _ => some .none) := pf_con pe_non fun _ => .non
theorem pf_str {x : Str} {j pos} : PE X (.Constant (.str x) j pos) (tF X.K R fun _ => some (.str x)) := pf_con pe_str fun _ => .str x
theorem pf_glob {x : Str} {v : V} {u : Value} {pos : Pos} {d : D} (hg : Gl X x) (hm : X.mg x = some u) (r : RelV v u) (rd : ∀ F, Rp X.K F v d) (hd : (x == ("__debug__" : Str)) = false := by decide) : PE X (.Name x pos) (tF X.K R fun _ => some d) :=
  pf_con (pe_glob hg hm r hd) rd

/-! ### two operands -/
/-- what an operation on values gives of data -/
def OpM (K : PySem.W.Frag) (r : R2) (g : D → D → Option D) : Prop := ∀ F H x y a b d, Same F H → Tr K F H x a → Tr K F H y b → g a b = some d → ∀ Q : VK, (∀ v F' H', Ext F H F' H' → Rp K F' v d → Q v H') → r x y H Q
def m2 (g : D → D → Option D) (ma mb : Ev → Option D) : Ev → Option D := fun ρ => (ma ρ).bind fun x => (mb ρ).bind fun y => g x y
theorem tr_op {K : PySem.W.Frag} {r : R2} {g : D → D → Option D} {ta tb : TE} (hm : OpM K r g) (ha : ∀ σ H Q, tT K R ma σ H Q → ta σ H Q) (hb : ∀ σ H Q, tT K R mb σ H Q → tb σ H Q) :
    ∀ σ H Q, tF K R (m2 g ma mb) σ H Q → tOp r ta tb σ H Q := by
  intro σ H Q ⟨B, F, w, ρ, d, W, h, q⟩
  obtain ⟨x, h1, h⟩ := Option.bind_eq_some_iff.mp h
  obtain ⟨y, h2, h⟩ := Option.bind_eq_some_iff.mp h
  refine ha _ _ _ ⟨B, F, w, ρ, x, W, h1, fun v F1 H1 E1 r1 => ?_⟩
  refine hb _ _ _ ⟨B, F1, w, ρ, y, W.ext E1, h2, fun u F2 H2 E2 r2 => ?_⟩
  exact hm F2 H2 v u x y d E2.fh (r1.up E2) r2 h _ fun z F3 H3 E3 r3 => q z F3 H3 ((E1.trans E2).trans E3) r3
theorem pf_bin {op : Operator} {r : R2} {g : D → D → Option D} (ho : OpR X (binaryOp op) r) (hm : OpM X.K r g) (ha : PE X a (tT X.K R ma)) (hb : PE X b (tT X.K R mb)) : PE X (.BinOp a op b pos) (tF X.K R (m2 g ma mb)) :=
  (pe_op ho ha hb).imp (tr_op hm (fun _ _ _ h => h) fun _ _ _ h => h)
theorem pf_cmp {op : CmpOp} {r : R2} {g : D → D → Option D} (ho : OpR X (compareOp op) r) (hm : OpM X.K r g) (ha : PE X a (tT X.K R ma)) (hb : PE X b (tT X.K R mb)) (hk : behindInMarks op b = false) : PE X (.Compare a [op] [b] pos) (tF X.K R (m2 g ma mb)) :=
  (pe_cmpR ho ha hb hk).imp (tr_op hm (fun _ _ _ h => h) fun _ _ _ h => h)
def PlainIxT' (b : Expr) : Prop := PlainIx b
theorem pf_ix {r : R2} {g : D → D → Option D} (ho : IxR X r) (hm : OpM X.K r g) (ha : PE X a (tT X.K R ma)) (hb : PE X b (tT X.K R mb)) (hs : PlainIx b := by intro _ _; rfl) : PE X (.Subscript a b pos) (tF X.K R (m2 g ma mb)) :=
  (pe_ix ho ha hb hs).imp (tr_op hm (fun _ _ _ h => h) fun _ _ _ h => h)
theorem OpM.or {K : PySem.W.Frag} {r r' : R2} {g g' : D → D → Option D} (h : OpM K r g) (h' : OpM K r' g') : OpM K (fun x y H Q => r x y H Q ∨ r' x y H Q) (fun a b => (g a b).orElse fun _ => g' a b) := by
  intro F H x y a b d e rx ry hg Q q
  have hg : ((g a b).orElse fun _ => g' a b) = some d := hg
  cases z : g a b with
  | some w =>
    rw [z] at hg
    exact .inl (h F H x y a b d e rx ry (z.trans hg) Q q)
  | none =>
    rw [z] at hg
    exact .inr (h' F H x y a b d e rx ry hg Q q)
def opI0 (f : Int → Int → Int) : D → D → Option D
  | .int i, .int j => some (.int (f i j))
  | _, _ => none
theorem om_I0 {K : PySem.W.Frag} {f : Int → Int → Int} : OpM K (rI0 fun i j => .int (f i j)) (opI0 f) := by
  intro F H x y a b d e rx ry hg Q q
  cases a <;> cases b <;> simp only [opI0] at hg <;> try (cases hg; done)
  injection hg with hg
  subst hg
  exact ⟨_, _, rx.int, ry.int, q _ F H (.refl e) (.int _)⟩
def opB0 (f : Int → Int → Bool) : D → D → Option D
  | .int i, .int j => some (.bool (f i j))
  | _, _ => none
theorem om_B0 {K : PySem.W.Frag} {f : Int → Int → Bool} : OpM K (rI0 fun i j => .bl (f i j)) (opB0 f) := by
  intro F H x y a b d e rx ry hg Q q
  cases a <;> cases b <;> simp only [opB0] at hg <;> try (cases hg; done)
  injection hg with hg
  subst hg
  exact ⟨_, _, rx.int, ry.int, q _ F H (.refl e) (.bl _)⟩
def opI (C : Int → Int → Bool) (f : Int → Int → Int) : D → D → Option D
  | .int i, .int j => if C i j = true then some (.int (f i j)) else none
  | _, _ => none
theorem om_I {K : PySem.W.Frag} {P : Int → Int → Prop} {C : Int → Int → Bool} {f : Int → Int → Int} (hc : ∀ i j, C i j = true → P i j) : OpM K (rI P fun i j => .int (f i j)) (opI C f) := by
  intro F H x y a b d e rx ry hg Q q
  cases a <;> cases b <;> simp only [opI] at hg <;> try (cases hg; done)
  split at hg
  · injection hg with hg
    subst hg
    exact ⟨_, _, rx.int, ry.int, hc _ _ (by assumption), q _ F H (.refl e) (.int _)⟩
  · cases hg

/-! #### + -/
def addD : D → D → Option D
  | .int i, .int j => some (.int (i + j))
  | .str x, .str y => if x.length + y.length ≤ LL then some (.str (x ++ y)) else none
  | .tuple xs, .tuple ys => if xs.length + ys.length ≤ LL then some (.tuple (xs ++ ys)) else none
  | .list xs, .list ys => if xs.length + ys.length ≤ LL then some (.list (xs ++ ys)) else none
  | _, _ => none
/-- xs + ys, both lists that may be written ones -/
def rCatL (K : PySem.W.Frag) : R2 := fun x y H Q => ∃ l b xs zs, x = .ref l ∧ y = .ref b ∧ H l = some (.lst xs) ∧ H b = some (.lst zs) ∧ xs.length + zs.length ≤ sizeLine ∧ ∀ p, H p = none → Q (.ref p) (upd H p (.lst (xs ++ zs)))
def rAddA (K : PySem.W.Frag) : R2 := fun x y H Q => (rI0 (fun i j => .int (i + j)) x y H Q) ∨ ((∃ i j, x = .str i ∧ y = .str j ∧ i.length + j.length ≤ sizeLine ∧ Q (.str (i ++ j)) H) ∨ (rCatA K x y H Q ∨ rCat x y H Q))
theorem op_addA : OpR X (binaryOp .Add) (rAddA X.K) := op_add.or (op_add_str.or (op_catA.or op_cat))
end
end Mi

end
section
set_option maxHeartbeats 4000000
open PySem PySem.Spec PyProof.Rows
namespace Mi
open L2
theorem tuple_mulS (l : Addr) (items : Array Value) (n : Nat) (dd : Option Addr) (sl : Array (Option Value)) (x : Int) (u : Tok) (c0 : (decide (x < -(2 ^ 63)) || decide (x ≥ 2 ^ 63)) = false) (c1 : (items.isEmpty || x == 1) = true) :
    Meets (Builtin.«tuple.__mul__» ⟨[.ref l, .int x u], []⟩) (fun _ R s => s.heap.get? l = some { cls := .type "tuple", dict := dd, data := .seq items n, slots := sl } ∧ R (.ok (.ret (Value.ref l))) s) :=
  .of_wp fun prog w A R s h => by
    obtain ⟨hp, g, d, tk, os⟩ := s
    obtain ⟨hl, h⟩ := h
    have f1 := AutoSeq1.idx_int
    wp_walk using wpAny_loadPart' hl
    repeat (first
      | (refine wpAny_ite_false (decide_eq_false (by rw [c0]; exact Bool.false_ne_true)) ?_; wp_walk using wpAny_loadPart' hl)
      | (refine wpAny_ite_true (decide_eq_true (by rw [c1])) ?_; wp_walk using wpAny_loadPart' hl))
    exact ⟨_, rfl, h⟩
theorem tuple_mulE (l : Addr) (items : Array Value) (n : Nat) (dd : Option Addr) (sl : Array (Option Value)) (x : Int) (u : Tok) (c0 : (decide (x < -(2 ^ 63)) || decide (x ≥ 2 ^ 63)) = false) (c1 : (items.isEmpty || x == 1) = false) (c2 : (decide (x ≤ 0) || items.isEmpty) = true) :
    Meets (Builtin.«tuple.__mul__» ⟨[.ref l, .int x u], []⟩) (fun _ R s => s.heap.get? l = some { cls := .type "tuple", dict := dd, data := .seq items n, slots := sl } ∧
      R (.ok (.ret (Value.ref s.heap.objs.size))) { s with heap := s.heap.push { cls := Value.type "tuple", data := Data.seq #[] }, toks := s.toks }) :=
  .of_wp fun prog w A R s h => by
    obtain ⟨hp, g, d, tk, os⟩ := s
    obtain ⟨hl, h⟩ := h
    have f1 := AutoSeq1.idx_int
    wp_walk using wpAny_loadPart' hl
    repeat (first
      | (refine wpAny_ite_false (decide_eq_false (by rw [c0]; exact Bool.false_ne_true)) ?_; wp_walk using wpAny_loadPart' hl)
      | (refine wpAny_ite_false (decide_eq_false (by rw [c1]; exact Bool.false_ne_true)) ?_; wp_walk using wpAny_loadPart' hl)
      | (refine wpAny_ite_true (decide_eq_true (by rw [c2])) ?_; wp_walk using wpAny_loadPart' hl)
      | (refine wpAny_ite_false (decide_eq_false (Nat.not_lt.mpr (by decide))) ?_; wp_walk using wpAny_loadPart' hl))
    exact ⟨_, rfl, h⟩

def rRepA (K : PySem.W.Frag) : R2 := fun x y H Q => ∃ l k xs, x = .ref l ∧ y = .int k ∧ SqT K H l xs ∧ -(2 ^ 63) ≤ k ∧ k < 2 ^ 63 ∧ xs.length * k.toNat ≤ LL ∧ (xs = [] ∨ k = 1 → Q (.ref l) H) ∧
  (xs ≠ [] → k ≠ 1 → ∀ p, H p = none → Q (.ref p) (upd H p (.tup (List.replicate k.toNat xs).flatten)))
section
variable {X : Cx}
theorem op_repA : OpR X (binaryOp .Mult) (rRepA X.K) := by
  intro pins s σ H x y v u Q I rx ry h
  obtain ⟨l, k, xs, rfl, rfl, hT, b1, b2, hz, q1, q2⟩ := h
  cases rx
  obtain ⟨t, rfl⟩ := ry
  obtain ⟨its, r, ⟨⟨cls, dd, data, sl⟩, ho, hc, n, hd⟩, hs⟩ := I.tuple hT
  simp only at hc hd
  subst hc hd
  have hle : its.length = xs.length := r.length.symm
  have hsz0 : its.toArray.size = xs.length := by rw [List.size_toArray, hle]
  have c0 : (decide (k < -(2 ^ 63)) || decide (k ≥ 2 ^ 63)) = false := by
    rw [decide_eq_false (by omega), decide_eq_false (by omega)] <;> rfl
  refine wpAny_binaryOp_repeat_ref (T := "tuple") (U := "int") (by decide) ⟨_, ho, rfl⟩ (fun s' => typeIs_int s' k t) noFill_tuple_mul F.fills_int_mul F.slot_int_rmul repeat_tuple F.slot_int_index.lookup
    (call_meets F.slot_int_rmul (typeIs_int s k t) F.entry_int_rmul (F.args_int_rmul_2 _ _) (int_rmul_tuple k t l its.toArray n dd sl)
      ⟨ho, rfl, ⟨_, ho, rfl⟩, ?_⟩)
  by_cases h1 : xs = [] ∨ k = 1
  · have c1 : (its.toArray.isEmpty || k == 1) = true := by
      rcases h1 with h1 | h1
      · subst h1
        have : its = [] := List.eq_nil_of_length_eq_zero hle
        subst this; rfl
      · subst h1; simp
    exact call_meets F.slot_tuple_mul ⟨_, ho, rfl⟩ F.entry_tuple_mul (F.args_tuple_mul_2 _ _) (tuple_mulS l its.toArray n dd sl k t c0 c1) ⟨ho, .ref l, H, I, rfl, q1 h1⟩
  · have hne : xs ≠ [] := fun z => h1 (.inl z)
    have hk1 : k ≠ 1 := fun z => h1 (.inr z)
    have hn : its ≠ [] := fun e => hne (by
      rw [e] at hle
      exact List.eq_nil_of_length_eq_zero hle.symm)
    have hi : its.toArray.isEmpty = false := by
      cases its with
      | nil => exact absurd rfl hn
      | cons a b => rfl
    have c1 : (its.toArray.isEmpty || k == 1) = false := by
      rw [hi, Bool.false_or]
      exact beq_eq_false_iff_ne.mpr (by omega)
    have q2 := q2 hne hk1
    by_cases hk : k ≤ 0
    · have c2 : (decide (k ≤ 0) || its.toArray.isEmpty) = true := by rw [decide_eq_true hk]; rfl
      have ez : k.toNat = 0 := by omega
      rw [ez] at q2
      refine call_meets F.slot_tuple_mul ⟨_, ho, rfl⟩ F.entry_tuple_mul (F.args_tuple_mul_2 _ _) (tuple_mulE l its.toArray n dd sl k t c0 c1 c2) ⟨ho, ?_⟩
      refine ⟨.ref s.heap.objs.size, _, I.laid (t' := s.toks) (o := .tup []) (fun b ob q => Heap.get?_push_of_some _ q) (Nat.le_refl _) ?_, rfl, q2 _ (I.hok.fresh (Nat.le_refl _))⟩
      exact ⟨Nat.zero_le _, _, .nil, IsTup.new _ _⟩
    · have hm : ((its.toArray.size : Nat) : Int) * k ≤ 16777216 := by
        rw [hsz0]
        have e : (k.toNat : Int) = k := Int.toNat_of_nonneg (by omega)
        have : ((xs.length * k.toNat : Nat) : Int) ≤ ((LL : Nat) : Int) := by exact_mod_cast hz
        rw [Int.natCast_mul, e] at this
        exact this
      have c2 : (decide (k ≤ 0) || its.toArray.isEmpty) = false := by
        rw [hi, Bool.or_false]
        exact decide_eq_false hk
      have flen : (List.replicate k.toNat its).flatten.length ≤ sizeLine := by
        rw [PyProof.Rows.lm_len_rep_flat, hle, sizeLine_eq, Nat.mul_comm]
        exact hz
      have c4 : Builtin.Tuple.tupleTooMany (((its.toArray.size : Nat) : Int) * k) = false := by
        unfold Builtin.Tuple.tupleTooMany
        rw [sizeLine_eq]
        exact decide_eq_false (by omega)
      refine call_meets F.slot_tuple_mul ⟨_, ho, rfl⟩ F.entry_tuple_mul (F.args_tuple_mul_2 _ _) (tuple_mulW l its.toArray n dd sl k t c0 c1 c2 (by omega) c4 (by rw [size_rep, List.size_toArray]; exact flen)) ⟨ho, ?_⟩
      rw [size_rep]
      refine ⟨.ref s.heap.objs.size, _, I.laid (t' := s.toks) (o := .tup (List.replicate k.toNat xs).flatten) (fun b ob q => Heap.get?_push_of_some _ q) (Nat.le_refl _) ?_, rfl, q2 _ (I.hok.fresh (Nat.le_refl _))⟩
      exact ⟨by rw [PyProof.Rows.lm_len_rep_flat, sizeLine_eq, Nat.mul_comm]; exact hz, _, r.rep k.toNat, IsTup.new _ _⟩
end

/-! #### data -/
section
variable {K : PySem.W.Frag} {X : Cx}
theorem tup_new {F H F' H' : Hp} {xs : List V} {ds : List D} (e : Same F H) (r : RpAll K F xs ds) {Q : VK} (q : ∀ v F' H', Ext F H F' H' → Rp K F' v (.tuple ds) → Q v H') {p : Addr} (n : H p = none) : Q (.ref p) (upd H p (.tup xs)) :=
  q _ _ _ (Ext.new e n) (.tup (SqT.of upd_same) (r.up (Ext.new e n).ff))
theorem lst_new {F H F' H' : Hp} {xs : List V} {ds : List D} (e : Same F H) (r : RpAll K F xs ds) {Q : VK} (q : ∀ v F' H', Ext F H F' H' → Rp K F' v (.list ds) → Q v H') {p : Addr} (n : H p = none) : Q (.ref p) (upd H p (.lst xs)) :=
  q _ _ _ (Ext.new e n) (.lst upd_same (r.up (Ext.new e n).ff))
theorem Tr.tupF {F H : Hp} {v : V} {ds : List D} (h : Tr K F H v (.tuple ds)) : Rp K F v (.tuple ds) := by
  rcases h with h | ⟨a, vs, ds, rfl, q, h3, h4⟩
  · exact h
  · cases q
theorem om_add : OpM K (rAddA K) addD := by
  intro F H x y a b d e rx ry hg Q q
  unfold addD at hg
  split at hg
  · injection hg with hg; subst hg
    exact .inl ⟨_, _, rx.int, ry.int, q _ F H (.refl e) (.int _)⟩
  · split at hg
    · injection hg with hg; subst hg
      exact .inr (.inl ⟨_, _, rx.str, ry.str, by rw [ll_line]; assumption, q _ F H (.refl e) (.str _)⟩)
    · cases hg
  · rename_i xs ys
    split at hg
    · rename_i hl
      injection hg with hg; subst hg
      have fx := rx.tupF
      have fy := ry.tupF
      obtain ⟨a, vs, rfl, hs, hr⟩ := rx.tuple e
      obtain ⟨b, ws, rfl, hs', hr'⟩ := ry.tuple e
      refine .inr (.inr (.inl ⟨a, b, vs, ws, rfl, rfl, hs, hs', ?_, fun z => ?_, fun _ z => ?_, fun z1 z2 p n => tup_new (F' := F) (H' := H) e (hr.append hr') q n⟩))
      · rw [hr.length, hr'.length, ll_line]; exact hl
      · subst z; cases hr; exact q _ F H (.refl e) fy
      · subst z; cases hr'; rw [List.append_nil] at q; exact q _ F H (.refl e) fx
    · cases hg
  · rename_i xs ys
    split at hg
    · rename_i hl
      injection hg with hg; subst hg
      obtain ⟨a, vs, rfl, hs, hr⟩ := rx.list e
      obtain ⟨b, ws, rfl, hs', hr'⟩ := ry.list e
      exact .inr (.inr (.inr ⟨a, b, vs, ws, rfl, rfl, hs, hs', by rw [hr.length, hr'.length, ll_line]; exact hl, fun p n => lst_new (F' := F) (H' := H) e (hr.append hr') q n⟩))
    · cases hg
  · cases hg

def mulOk (i j : Int) : Bool := (decide (-(2 ^ 64) < i) && decide (i < 2 ^ 64)) || (decide (-(2 ^ 64) < j) && decide (j < 2 ^ 64))
def mulD : D → D → Option D
  | .int i, .int j => if mulOk i j = true then some (.int (i * j)) else none
  | .tuple xs, .int k => if (decide (-(2 ^ 63) ≤ k) && decide (k < 2 ^ 63) && decide (xs.length * k.toNat ≤ LL)) = true then some (.tuple (List.replicate k.toNat xs).flatten) else none
  | .list xs, .int k => if (decide (-(2 ^ 63) ≤ k) && decide (k < 2 ^ 63) && decide (xs.length * k.toNat ≤ LL)) = true then some (.list (List.replicate k.toNat xs).flatten) else none
  | _, _ => none
def rMulA (K : PySem.W.Frag) : R2 := fun x y H Q => (rI CMul (fun i j => .int (i * j)) x y H Q) ∨ (rRepA K x y H Q ∨ rRep x y H Q)
theorem op_mulA : OpR X (binaryOp .Mult) (rMulA X.K) := op_mul.or (op_repA.or op_rep)
theorem rep_all {F : Hp} {vs : List V} {ds : List D} (h : RpAll K F vs ds) : ∀ n : Nat, RpAll K F (List.replicate n vs).flatten (List.replicate n ds).flatten
  | 0 => .nil
  | n + 1 => by
    rw [List.replicate_succ, List.replicate_succ, List.flatten_cons, List.flatten_cons]
    exact h.append (rep_all h n)
theorem om_mul : OpM K (rMulA K) mulD := by
  intro F H x y a b d e rx ry hg Q q
  unfold mulD at hg
  split at hg
  · split at hg
    · rename_i hk
      injection hg with hg; subst hg
      refine .inl ⟨_, _, rx.int, ry.int, ?_, q _ F H (.refl e) (.int _)⟩
      unfold mulOk at hk
      simp only [Bool.or_eq_true, Bool.and_eq_true, decide_eq_true_eq] at hk
      exact hk
    · cases hg
  · rename_i xs k
    split at hg
    · rename_i hk
      simp only [Bool.and_eq_true, decide_eq_true_eq] at hk
      obtain ⟨⟨h1, h2⟩, h3⟩ := hk
      injection hg with hg; subst hg
      have fx := rx.tupF
      obtain ⟨a, vs, rfl, hs, hr⟩ := rx.tuple e
      refine .inr (.inl ⟨a, k, vs, rfl, ry.int, hs, h1, h2, by rw [hr.length]; exact h3, fun z => ?_, fun _ _ p n => tup_new (F' := F) (H' := H) e (rep_all hr _) q n⟩)
      rcases z with z | z
      · subst z
        cases hr
        have ez : (List.replicate k.toNat ([] : List D)).flatten = [] := by
          rw [List.flatten_eq_nil_iff]
          intro l hl
          exact (List.eq_of_mem_replicate hl)
        rw [ez] at q
        exact q _ F H (.refl e) fx
      · subst z
        rw [show (1 : Int).toNat = 1 from rfl, List.replicate_one, List.flatten_singleton] at q
        exact q _ F H (.refl e) fx
    · cases hg
  · rename_i xs k
    split at hg
    · rename_i hk
      simp only [Bool.and_eq_true, decide_eq_true_eq] at hk
      obtain ⟨⟨h1, h2⟩, h3⟩ := hk
      injection hg with hg; subst hg
      obtain ⟨a, vs, rfl, hs, hr⟩ := rx.list e
      exact .inr (.inr ⟨a, k, vs, rfl, ry.int, hs, h1, h2, by rw [hr.length, ll_line]; exact h3, fun p n => lst_new (F' := F) (H' := H) e (rep_all hr _) q n⟩)
    · cases hg
  · cases hg
def subD : D → D → Option D := opI0 fun i j => i - j
def fdivD : D → D → Option D := opI (fun _ j => decide (0 < j) && decide (j < 1073741824)) fun i j => i / j
def modD : D → D → Option D := opI (fun _ j => decide (0 < j)) fun i j => i % j
def shrD : D → D → Option D := opI (fun _ j => decide (0 ≤ j)) fun i j => i / 2 ^ j.toNat
def shlD : D → D → Option D := opI (fun i j => decide (0 ≤ j) && (decide (j ≤ 1000000) && decide (i.natAbs < 2 ^ 64))) fun i j => i * 2 ^ j.toNat
def powD : D → D → Option D := opI (fun i j => decide (0 ≤ j) && (decide (j ≤ 1000000) && decide (i.natAbs < 2 ^ 64))) fun i j => i ^ j.toNat
def andD : D → D → Option D := opI0 Builtin.bitAnd
def orD : D → D → Option D := opI0 Builtin.bitOr
def xorD : D → D → Option D := opI0 Builtin.bitXor
theorem om_sub : OpM K (rI0 fun i j => .int (i - j)) subD := om_I0
theorem om_fdiv : OpM K (rI CDiv fun i j => .int (i / j)) fdivD := om_I fun i j h => by
  simp only [Bool.and_eq_true, decide_eq_true_eq] at h
  exact h
theorem om_mod : OpM K (rI (fun _ j => 0 < j) fun i j => .int (i % j)) modD := om_I fun i j h => of_decide_eq_true h
theorem om_shr : OpM K (rI (fun _ j => 0 ≤ j) fun i j => .int (i / 2 ^ j.toNat)) shrD := om_I fun i j h => of_decide_eq_true h
theorem om_shl : OpM K (rI CPow fun i j => .int (i * 2 ^ j.toNat)) shlD := om_I fun i j h => by
  simp only [Bool.and_eq_true, decide_eq_true_eq] at h
  exact h
theorem om_pow : OpM K (rI CPow fun i j => .int (i ^ j.toNat)) powD := om_I fun i j h => by
  simp only [Bool.and_eq_true, decide_eq_true_eq] at h
  exact h
theorem om_and : OpM K (rI0 fun i j => .int (Builtin.bitAnd i j)) andD := om_I0
theorem om_or : OpM K (rI0 fun i j => .int (Builtin.bitOr i j)) orD := om_I0
theorem om_xor : OpM K (rI0 fun i j => .int (Builtin.bitXor i j)) xorD := om_I0

/-! #### comparisons -/
def ltD : D → D → Option D := opB0 fun i j => decide (i < j)
def leD : D → D → Option D := opB0 fun i j => decide (i ≤ j)
def gtD : D → D → Option D := opB0 fun i j => decide (j < i)
def geD : D → D → Option D := opB0 fun i j => decide (j ≤ i)
theorem om_lt : OpM K (rI0 fun i j => .bl (decide (i < j))) ltD := om_B0
theorem om_le : OpM K (rI0 fun i j => .bl (decide (i ≤ j))) leD := om_B0
theorem om_gt : OpM K (rI0 fun i j => .bl (decide (j < i))) gtD := om_B0
theorem om_ge : OpM K (rI0 fun i j => .bl (decide (j ≤ i))) geD := om_B0
/-- == of data -/
def eqD (a b : D) : Option D := if (SeqAt.shaped a && SeqAt.shaped b) = true then some (.bool (PyData.eqv a b)) else none
def neD (a b : D) : Option D := if (SeqAt.shaped a && SeqAt.shaped b) = true then some (.bool (!PyData.eqv a b)) else none
theorem om_eq : OpM K (rEqD K) eqD := by
  intro F H x y a b d e rx ry hg Q q
  unfold eqD at hg
  split at hg
  · rename_i h
    rw [Bool.and_eq_true] at h
    injection hg with hg; subst hg
    exact ⟨a, b, (rx.rp e).dp (SeqAt.canLay_of_shaped h.1), (ry.rp e).dp (SeqAt.canLay_of_shaped h.2), h.1, h.2, q _ F H (.refl e) (.bl _)⟩
  · cases hg
theorem om_ne : OpM K (rNeD K) neD := by
  intro F H x y a b d e rx ry hg Q q
  unfold neD at hg
  split at hg
  · rename_i h
    rw [Bool.and_eq_true] at h
    injection hg with hg; subst hg
    exact ⟨a, b, (rx.rp e).dp (SeqAt.canLay_of_shaped h.1), (ry.rp e).dp (SeqAt.canLay_of_shaped h.2), h.1, h.2, q _ F H (.refl e) (.bl _)⟩
  · cases hg
/-- is None, is True, .. -/
def isNone : D → Bool
  | .none => true
  | _ => false
def isD (a b : D) : Option D := match b with
  | .none => some (.bool (isNone a))
  | .bool y => match a with
    | .bool x => some (.bool (x == y))
    | _ => none
  | _ => none
def isNotD (a b : D) : Option D := match b with
  | .none => some (.bool (!isNone a))
  | .bool y => match a with
    | .bool x => some (.bool (!(x == y)))
    | _ => none
  | _ => none
def rIsA : R2 := fun x y H Q => (y = .non ∧ Q (.bl (decide (x = .non))) H) ∨ (∃ a b, x = .bl a ∧ y = .bl b ∧ Q (.bl (decide (a = b))) H)
def rIsNotA : R2 := fun x y H Q => (y = .non ∧ Q (.bl (!decide (x = .non))) H) ∨ (∃ a b, x = .bl a ∧ y = .bl b ∧ Q (.bl (!decide (a = b))) H)
theorem tr_non {F H : Hp} {v : V} {d : D} (h : Tr K F H v d) : decide (v = .non) = isNone d := by
  rcases h with h | ⟨a, vs, ds, rfl, rfl, h3, h4⟩
  · cases h <;> rfl
  · rfl
end
end Mi

end
section
set_option maxHeartbeats 1000000
open PySem PySem.Spec PyProof.Rows
namespace Mi
open L2
section
variable {X : Cx} {R : ORel} {K : PySem.W.Frag} {e a b c : Expr} {m ma mb mc : Ev → Option D} {pos : Pos}
/-! ### is, chains, not, and, or, if as values -/
theorem op_isA : OpR X (compareOp .Is) rIsA := op_isN.or op_is_bl
theorem op_isNotA : OpR X (compareOp .IsNot) rIsNotA := op_notN.or op_isnot_bl
theorem om_is : OpM K rIsA isD := by
  intro F H x y a b d e rx ry hg Q q
  unfold isD at hg
  split at hg
  · injection hg with hg; subst hg
    refine .inl ⟨ry.non, ?_⟩
    rw [tr_non rx]
    exact q _ F H (.refl e) (.bl _)
  · split at hg
    · injection hg with hg; subst hg
      refine .inr ⟨_, _, rx.bl, ry.bl, ?_⟩
      rw [← Bool.beq_eq_decide_eq]
      exact q _ F H (.refl e) (.bl _)
    · cases hg
  · cases hg
theorem om_isNot : OpM K rIsNotA isNotD := by
  intro F H x y a b d e rx ry hg Q q
  unfold isNotD at hg
  split at hg
  · injection hg with hg; subst hg
    refine .inl ⟨ry.non, ?_⟩
    rw [tr_non rx]
    exact q _ F H (.refl e) (.bl _)
  · split at hg
    · injection hg with hg; subst hg
      refine .inr ⟨_, _, rx.bl, ry.bl, ?_⟩
      rw [← Bool.beq_eq_decide_eq]
      exact q _ F H (.refl e) (.bl _)
    · cases hg
  · cases hg
def mChain (g g' : D → D → Option D) (ma mb mc : Ev → Option D) : Ev → Option D := fun ρ => (ma ρ).bind fun x => (mb ρ).bind fun y => (g x y).bind fun z => match z with
  | .bool true => (mc ρ).bind fun u => g' y u
  | .bool false => some (.bool false)
  | _ => none
theorem tr_chain {r r' : R2} {g g' : D → D → Option D} (hm : OpM K r g) (hm' : OpM K r' g') : ∀ σ H Q, tF K R (mChain g g' ma mb mc) σ H Q → tChain r r' (tT K R ma) (tT K R mb) (tT K R mc) σ H Q := by
  intro σ H Q ⟨B, F, w, ρ, d, W, h, q⟩
  obtain ⟨x, h1, h⟩ := Option.bind_eq_some_iff.mp h
  obtain ⟨y, h2, h⟩ := Option.bind_eq_some_iff.mp h
  obtain ⟨z, h3, h⟩ := Option.bind_eq_some_iff.mp h
  refine ⟨B, F, w, ρ, x, W, h1, fun v F1 H1 E1 r1 => ?_⟩
  refine ⟨B, F1, w, ρ, y, W.ext E1, h2, fun u F2 H2 E2 r2 => ?_⟩
  refine hm F2 H2 v u x y z E2.fh (r1.up E2) r2 h3 _ fun z' F3 H3 E3 r3 => ?_
  split at h
  · obtain ⟨t, h4, h⟩ := Option.bind_eq_some_iff.mp h
    cases r3
    refine ⟨true, rfl, iteT ?_⟩
    refine ⟨B, F3, w, ρ, t, ((W.ext E1).ext E2).ext E3, h4, fun s F4 H4 E4 r4 => ?_⟩
    exact hm' F4 H4 u s y t d E4.fh ((r2.up E3).up E4) r4 h _ fun z F5 H5 E5 r5 => q z F5 H5 ((((E1.trans E2).trans E3).trans E4).trans E5) r5
  · cases r3
    injection h with h; subst h
    exact ⟨false, rfl, iteF (q _ F3 H3 ((E1.trans E2).trans E3) (.bl _))⟩
  · cases h
theorem pf_chain {op op' : CmpOp} {r r' : R2} {g g' : D → D → Option D} (ho : OpR X (compareOp op) r) (hm : OpM X.K r g) (ho' : OpR X (compareOp op') r') (hm' : OpM X.K r' g') (ha : PE X a (tT X.K R ma)) (hb : PE X b (tT X.K R mb)) (hc : PE X c (tT X.K R mc))
    (hk : lastMarks [op, op'] [b, c] = false := by with_unfolding_all rfl) : PE X (.Compare a [op, op'] [b, c] pos) (tF X.K R (mChain g g' ma mb mc)) :=
  (pe_chain ho ho' ha hb hc hk).imp (tr_chain hm hm')
def mNot (m : Ev → Option D) : Ev → Option D := fun ρ => (m ρ).bind fun x => match x with
  | .bool c => some (.bool (!c))
  | _ => none
theorem pf_not (ha : PE X a (tF X.K R ma)) : PE X (.UnaryOp .Not a pos) (tF X.K R (mNot ma)) := (pe_not ha).imp fun σ H Q ⟨B, F, w, ρ, d, W, h, q⟩ => by
  obtain ⟨x, h1, h⟩ := Option.bind_eq_some_iff.mp h
  refine ⟨B, F, w, ρ, x, W, h1, fun v F1 H1 E1 r1 => ?_⟩
  split at h
  · injection h with h; subst h
    cases r1
    exact ⟨_, rfl, q _ F1 H1 E1 (.bl _)⟩
  · cases h
def mAnd (ma mb : Ev → Option D) : Ev → Option D := fun ρ => (ma ρ).bind fun x => match x with
  | .bool true => mb ρ
  | .bool false => some (.bool false)
  | _ => none
def mOr (ma mb : Ev → Option D) : Ev → Option D := fun ρ => (ma ρ).bind fun x => match x with
  | .bool false => mb ρ
  | .bool true => some (.bool true)
  | _ => none
theorem pf_one {op} (h : PE X a (tF X.K R m)) : PE X (.BoolOp op [a] pos) (tF X.K R m) := pe_one h
theorem pf_and {rest : List Expr} (ha : PE X a (tF X.K R ma)) (hb : PE X (.BoolOp .And (b :: rest) pos) (tF X.K R mb)) : PE X (.BoolOp .And (a :: b :: rest) pos) (tF X.K R (mAnd ma mb)) := (pe_and ha hb).imp fun σ H Q ⟨B, F, w, ρ, d, W, h, q⟩ => by
  obtain ⟨x, h1, h⟩ := Option.bind_eq_some_iff.mp h
  refine ⟨B, F, w, ρ, x, W, h1, fun v F1 H1 E1 r1 => ?_⟩
  split at h
  · cases r1
    exact ⟨true, rfl, iteT ⟨B, F1, w, ρ, d, W.ext E1, h, fun v F2 H2 E2 r2 => q v F2 H2 (E1.trans E2) r2⟩⟩
  · cases r1
    injection h with h; subst h
    exact ⟨false, rfl, iteF (q _ F1 H1 E1 (.bl _))⟩
  · cases h
theorem pf_or {rest : List Expr} (ha : PE X a (tF X.K R ma)) (hb : PE X (.BoolOp .Or (b :: rest) pos) (tF X.K R mb)) : PE X (.BoolOp .Or (a :: b :: rest) pos) (tF X.K R (mOr ma mb)) := (pe_or ha hb).imp fun σ H Q ⟨B, F, w, ρ, d, W, h, q⟩ => by
  obtain ⟨x, h1, h⟩ := Option.bind_eq_some_iff.mp h
  refine ⟨B, F, w, ρ, x, W, h1, fun v F1 H1 E1 r1 => ?_⟩
  split at h
  · cases r1
    exact ⟨false, rfl, iteF ⟨B, F1, w, ρ, d, W.ext E1, h, fun v F2 H2 E2 r2 => q v F2 H2 (E1.trans E2) r2⟩⟩
  · cases r1
    injection h with h; subst h
    exact ⟨true, rfl, iteT (q _ F1 H1 E1 (.bl _))⟩
  · cases h
def mIf {α : Type} (t : Ev → Option Bool) (ma mb : Ev → Option α) : Ev → Option α := fun ρ => (t ρ).bind fun c => if c = true then ma ρ else mb ρ
theorem pf_if {t : Ev → Option Bool} (hc : PT X c (tB X.K R t)) (ha : PE X a (tF X.K R ma)) (hb : PE X b (tF X.K R mb)) : PE X (.IfExp c a b pos) (tF X.K R (mIf t ma mb)) := (pe_ifExp hc ha hb).imp fun σ H Q ⟨B, F, w, ρ, d, W, h, q⟩ => by
  obtain ⟨x, h1, h⟩ := Option.bind_eq_some_iff.mp h
  refine ⟨B, F, w, ρ, x, W, h1, fun F1 H1 E1 => ?_⟩
  split at h
  · rename_i hx; subst hx
    exact iteT ⟨B, F1, w, ρ, d, W.ext E1, h, fun v F2 H2 E2 r2 => q v F2 H2 (E1.trans E2) r2⟩
  · rename_i hx
    have hx : x = false := by simpa using hx
    subst hx
    exact iteF ⟨B, F1, w, ρ, d, W.ext E1, h, fun v F2 H2 E2 r2 => q v F2 H2 (E1.trans E2) r2⟩
def negD : D → Option D
  | .int i => some (.int (-i))
  | _ => none
def m1 (g : D → Option D) (m : Ev → Option D) : Ev → Option D := fun ρ => (m ρ).bind g
theorem pf_neg (ha : PE X a (tF X.K R ma)) : PE X (.UnaryOp .USub a pos) (tF X.K R (m1 negD ma)) := (pe_un un_neg ha).imp fun σ H Q ⟨B, F, w, ρ, d, W, h, q⟩ => by
  obtain ⟨x, h1, h⟩ := Option.bind_eq_some_iff.mp h
  refine ⟨B, F, w, ρ, x, W, h1, fun v F1 H1 E1 r1 => ?_⟩
  cases x <;> simp only [negD] at h <;> try (cases h; done)
  injection h with h; subst h
  cases r1
  exact ⟨_, rfl, q _ F1 H1 E1 (.int _)⟩

/-! ### tests -/
def truthD : D → Option Bool
  | .none => some false
  | .bool b => some b
  | .int i => some (i != 0)
  | .str x => if x.length ≤ LL then some ((x.length : Int) != 0) else none
  | .list xs => some (!xs.isEmpty)
  | .tuple xs => some (!xs.isEmpty)
  | .dict _ => none
theorem tru_of {F H : Hp} {v : V} {d : D} {k : Bool} (r : Tr K F H v d) (e : Same F H) (h : truthD d = some k) : TruV K v H k := by
  have emp : ∀ {vs : List V} {ds : List D}, RpAll K F vs ds → (!ds.isEmpty) = !vs.isEmpty := fun {vs ds} hr => by cases hr <;> rfl
  cases d with
  | none => rw [r.non]; injection h with h; exact h.symm
  | bool b => rw [r.bl]; injection h with h; exact h.symm
  | int i => rw [r.int]; injection h with h; exact h.symm
  | str x =>
    rw [r.str]
    simp only [truthD] at h
    split at h
    · injection h with h
      exact ⟨by rw [ll_line]; assumption, h.symm⟩
    · cases h
  | list xs =>
    injection h with h
    obtain ⟨a, vs, rfl, h3, h4⟩ := r.list e
    exact .inl ⟨vs, SqL.of h3, by rw [← h]; exact emp h4⟩
  | tuple xs =>
    injection h with h
    obtain ⟨a, vs, rfl, h3, h4⟩ := r.tuple e
    exact .inr (.inl ⟨vs, h3, by rw [← h]; exact emp h4⟩)
  | dict _ => cases h
def mTru (m : Ev → Option D) : Ev → Option Bool := fun ρ => (m ρ).bind truthD
theorem pb_tru (ha : PE X a (tT X.K R m)) (he : ∀ whole, isTrue a X.env whole = (do let v ← whole; standAt a.pos; holding [v] (truthy v)) := by intro _; rfl) : PT X a (tB X.K R (mTru m)) := (pt_truth ha he).imp fun σ H Q ⟨B, F, w, ρ, b, W, h, q⟩ => by
  obtain ⟨x, h1, h⟩ := Option.bind_eq_some_iff.mp h
  exact ⟨B, F, w, ρ, x, W, h1, fun v F1 H1 E1 r1 => ⟨b, tru_of r1 E1.fh h, q F1 H1 E1⟩⟩
/-- a test that is True or False -/
def mBl (m : Ev → Option D) : Ev → Option Bool := fun ρ => (m ρ).bind fun x => match x with
  | .bool b => some b
  | _ => none
theorem bl_of {te : TE} (hk : ∀ σ H Q, tF K R m σ H Q → te σ H Q) : ∀ σ H Q, tB K R (mBl m) σ H Q → tTest te σ H Q := fun σ H Q ⟨B, F, w, ρ, b, W, h, q⟩ => by
  obtain ⟨x, h1, h⟩ := Option.bind_eq_some_iff.mp h
  refine hk _ _ _ ⟨B, F, w, ρ, x, W, h1, fun v F1 H1 E1 r1 => ?_⟩
  split at h
  · injection h with h; subst h
    cases r1
    exact ⟨_, rfl, q F1 H1 E1⟩
  · cases h
theorem pb_cmp {op : CmpOp} {r : R2} {g : D → D → Option D} (ho : OpR X (compareOp op) r) (hm : OpM X.K r g) (ha : PE X a (tT X.K R ma)) (hb : PE X b (tT X.K R mb)) (hk : behindInMarks op b = false) : PT X (.Compare a [op] [b] pos) (tB X.K R (mBl (m2 g ma mb))) :=
  (pt_cmpR ho ha hb hk).imp (bl_of (tr_op hm (fun _ _ _ h => h) fun _ _ _ h => h))
theorem pb_chain {op op' : CmpOp} {r r' : R2} {g g' : D → D → Option D} (ho : OpR X (compareOp op) r) (hm : OpM X.K r g) (ho' : OpR X (compareOp op') r') (hm' : OpM X.K r' g') (ha : PE X a (tT X.K R ma)) (hb : PE X b (tT X.K R mb)) (hc : PE X c (tT X.K R mc))
    (hk : lastMarks [op, op'] [b, c] = false := by with_unfolding_all rfl) : PT X (.Compare a [op, op'] [b, c] pos) (tB X.K R (mBl (mChain g g' ma mb mc))) :=
  (pt_chain ho ho' ha hb hc hk).imp (bl_of (tr_chain hm hm'))
def mNotB (t : Ev → Option Bool) : Ev → Option Bool := fun ρ => (t ρ).map (! ·)
def mAndB (t u : Ev → Option Bool) : Ev → Option Bool := fun ρ => (t ρ).bind fun c => if c = true then u ρ else some false
def mOrB (t u : Ev → Option Bool) : Ev → Option Bool := fun ρ => (t ρ).bind fun c => if c = true then some true else u ρ
theorem pb_not {t : Ev → Option Bool} (ha : PT X a (tB X.K R t)) : PT X (.UnaryOp .Not a pos) (tB X.K R (mNotB t)) := (pt_not ha).imp fun σ H Q ⟨B, F, w, ρ, b, W, h, q⟩ => by
  obtain ⟨x, h1, h⟩ := Option.map_eq_some_iff.mp h
  subst h
  exact ⟨B, F, w, ρ, x, W, h1, fun F1 H1 E1 => q F1 H1 E1⟩
structure PWB (X : Cx) (R : ORel) (e : Expr) (t : Ev → Option Bool) : Prop where
  pw : PW X e (tB X.K R t)
theorem pwb_and1 {t : Ev → Option Bool} (ha : PT X a (tB X.K R t)) : PWB X R (.BoolOp .And [a] pos) t := ⟨pw_and1 ha⟩
theorem pwb_or1 {t : Ev → Option Bool} (ha : PT X a (tB X.K R t)) : PWB X R (.BoolOp .Or [a] pos) t := ⟨pw_or1 ha⟩
theorem _root_.L2.PW.imp {X : Cx} {e : Expr} {t t' : TT} (h : PW X e t) (k : ∀ σ H Q, t' σ H Q → t σ H Q) : PW X e t' := ⟨fun wh pins s σ H Q I q => h.run wh pins s σ H Q I (k σ H Q q)⟩
theorem pwb_and {t u : Ev → Option Bool} {rest : List Expr} (ha : PT X a (tB X.K R t)) (hb : PWB X R (.BoolOp .And (b :: rest) pos) u) : PWB X R (.BoolOp .And (a :: b :: rest) pos) (mAndB t u) := ⟨(pw_and ha hb.pw).imp fun σ H Q ⟨B, F, w, ρ, d, W, h, q⟩ => by
  obtain ⟨x, h1, h⟩ := Option.bind_eq_some_iff.mp h
  refine ⟨B, F, w, ρ, x, W, h1, fun F1 H1 E1 => ?_⟩
  split at h
  · rename_i hx; subst hx
    exact iteT ⟨B, F1, w, ρ, d, W.ext E1, h, fun F2 H2 E2 => q F2 H2 (E1.trans E2)⟩
  · rename_i hx
    have hx : x = false := by simpa using hx
    subst hx
    injection h with h; subst h
    exact iteF (q F1 H1 E1)⟩
theorem pwb_or {t u : Ev → Option Bool} {rest : List Expr} (ha : PT X a (tB X.K R t)) (hb : PWB X R (.BoolOp .Or (b :: rest) pos) u) : PWB X R (.BoolOp .Or (a :: b :: rest) pos) (mOrB t u) := ⟨(pw_or ha hb.pw).imp fun σ H Q ⟨B, F, w, ρ, d, W, h, q⟩ => by
  obtain ⟨x, h1, h⟩ := Option.bind_eq_some_iff.mp h
  refine ⟨B, F, w, ρ, x, W, h1, fun F1 H1 E1 => ?_⟩
  split at h
  · rename_i hx; subst hx
    injection h with h; subst h
    exact iteT (q F1 H1 E1)
  · rename_i hx
    have hx : x = false := by simpa using hx
    subst hx
    exact iteF ⟨B, F1, w, ρ, d, W.ext E1, h, fun F2 H2 E2 => q F2 H2 (E1.trans E2)⟩⟩
theorem PWB.pt {t : Ev → Option Bool} (h : PWB X R e t) : PT X e (tB X.K R t) := h.pw.pt
end
end Mi

end
section
set_option maxHeartbeats 2000000
/-! enumerate of a tuple; zip of lists and tuples in any mix -/
namespace PySem
open Sem (wp)
open AutoSeq1 (wpAny_loadPart')
theorem meets_enumerate_newT (l : Addr) (items : Array Value) (n : Nat) (dct : Option Addr) (sl : Array (Option Value)) :
    Meets (Builtin.«enumerate.__new__» ⟨[.type "enumerate", .ref l], []⟩) (fun _ R s => s.heap.get? l = some { cls := .type "tuple", dict := dct, data := .seq items n, slots := sl } ∧
      R (.ok (.ret (.ref (s.heap.push { cls := .type "tuple_iterator", data := .fields #[.ref l, .int 0 0] }).objs.size)))
        { s with heap := (s.heap.push { cls := .type "tuple_iterator", data := .fields #[.ref l, .int 0 0] }).push { cls := .type "enumerate", data := .fields #[.none, .bool false, .ref s.heap.objs.size, rawInt 0, .none, .none] } }) :=
  .of_wp fun prog w A R s h => by
    obtain ⟨hp, g, d, tk, os⟩ := s; obtain ⟨hl, h⟩ := h
    have hsub := sub_enumerate
    have hL : Heap.IsTuple (Shared.heap ⟨hp, g, d, tk, os⟩) l items := ⟨_, hl, rfl, n, rfl⟩
    wp_walk using wpAny_loadPart' hl
    refine wpAny_stack_any fun st => wpAny_pure ?_
    split
    · rename_i c _ _ _ _ _
      cases (c == Value.type "enumerate")
      · wp_walk using wpAny_loadPart' hl, wpAny_pyIter_tuple hL
        exact ⟨_, rfl, h⟩
      · wp_walk using wpAny_loadPart' hl, wpAny_pyIter_tuple hL
        exact ⟨_, rfl, h⟩
    · wp_walk using wpAny_loadPart' hl, wpAny_pyIter_tuple hL
      exact ⟨_, rfl, h⟩
section
variable {prog : Program} {w : World} {A : Around} {E : Value → Shared → Prop} {s : Shared}
theorem call_enumerate_tuple {l : Addr} {items : Array Value} {Q : Value → Shared → Prop} (hL : s.heap.IsTuple l items)
    (h : ∀ h', IsEnum h' (s.heap.objs.size + 1) s.heap.objs.size 0 .none → h'.IsTupleIter s.heap.objs.size l 0 → h'.objs.size = s.heap.objs.size + 2 →
      (∀ b o, s.heap.get? b = some o → h'.get? b = some o) → Q (.ref (s.heap.objs.size + 1)) { s with heap := h' }) :
    wpAny (model prog w) A (call (.type "enumerate") [.ref l]) Q E s := by
  obtain ⟨⟨c, dct, dt, sl⟩, hl, hc, n, hd⟩ := hL
  replace hc : c = .type "tuple" := hc
  replace hd : dt = .seq items n := hd
  subst hc hd
  refine callType_new F.called_enumerate (by decide) (F.typeCall_enumerate_1 _) (F.newCall_enumerate_1 _) (fun obj => F.args_object_init_2 obj _) F.entry_enumerate_new
    (meets_enumerate_newT l items n dct sl) ⟨hl, ?_⟩
  have hz : (s.heap.push { cls := .type "tuple_iterator", data := .fields #[.ref l, .int 0 0] }).objs.size = s.heap.objs.size + 1 := Heap.size_push ..
  show _ ∧ _
  rw [hz]
  have he : IsEnum ((s.heap.push { cls := .type "tuple_iterator", data := .fields #[.ref l, .int 0 0] }).push
      { cls := .type "enumerate", data := .fields #[.none, .bool false, .ref s.heap.objs.size, rawInt 0, .none, .none] }) (s.heap.objs.size + 1) s.heap.objs.size 0 .none := by
    have := Heap.get?_push_size (s.heap.push { cls := .type "tuple_iterator", data := .fields #[.ref l, .int 0 0] })
      (o := { cls := .type "enumerate", data := .fields #[.none, .bool false, .ref s.heap.objs.size, rawInt 0, .none, .none] }) rfl
    rw [hz] at this; exact this
  refine ⟨⟨_, he, rfl⟩, h _ he ⟨_, Heap.get?_push_of_some _ (Heap.get?_push_size _ rfl), rfl, rfl⟩ (by rw [Heap.size_push, hz]) fun b o x => Heap.get?_push_of_some _ (Heap.get?_push_of_some _ x)⟩
end
end PySem
namespace L2
open PySem PySem.Spec PyProof.Rows
/-- the tuple at a as it stands at each turn, each item in a new pair -/
def IteT (K : PySem.W.Frag) (a : Addr) : It :=
  ⟨fun i H => ∃ (xs : List V) (x : V), SqT K H a xs ∧ xs[i]? = some x, fun i H v H' => ∃ T x, v = .ref T ∧ H T = none ∧ H' = upd H T (.tup [.int (i : Nat), x]) ∧ ∀ xs, SqT K H a xs → xs[i]? = some x, fun i H => ∃ xs : List V, SqT K H a xs ∧ xs.length = i⟩
theorem tupIter_ne {h : Heap} {it a : Addr} {i : Nat} {vs : Array Value} (hi : h.IsTupleIter it a i) (ht : h.IsTuple a vs) : a ≠ it := fun e => by
  obtain ⟨o, h1, h2, _⟩ := hi
  obtain ⟨o', h3, h4, _⟩ := ht
  rw [e, h1] at h3
  cases h3
  rw [h2] at h4
  exact absurd (Value.type.inj h4) (by decide)
theorem enum_ne {h : Heap} {e it a : Addr} {i : Int} {old : Value} {vs : Array Value} (hi : IsEnum h e it i old) (ht : h.IsTuple a vs) : e ≠ a := fun z => by
  obtain ⟨o', h3, h4, _⟩ := ht
  have h1 := hi
  unfold IsEnum at h1
  rw [z, h3] at h1
  cases h1
  exact absurd (Value.type.inj h4) (by decide)
theorem turn_enumT {P : Program} {w : World} {K : PySem.W.Frag} {elts : List Expr} {kk : Nat} {tpos : Pos} (a e it : Addr) :
    Turn P w K (.Tuple elts kk tpos) (IteT K a) [e, it] e (fun i h => (∃ old, IsEnum h e it ((i : Nat) : Int) old) ∧ h.IsTupleIter it a i ∧ e ≠ it) where
  mem := by simp
  obj := fun i h st b hb => by
    obtain ⟨⟨old, he⟩, ⟨o, ho, hc, hd⟩, _⟩ := st
    have e' : b = e ∨ b = it := by simpa using hb
    rcases e' with z | z
    · rw [z]; exact ⟨_, he, fun v q => nomatch q⟩
    · rw [z]; exact ⟨o, ho, fun v q => by rw [hd] at q; cases q⟩
  keep := fun i h h' st k => let ⟨⟨old, he⟩, hi, hne⟩ := st; ⟨⟨old, k e (by simp) _ he⟩, hi.at fun o q => k it (by simp) o q, hne⟩
  item := by
    intro X hP hw hK hc i pins s σ H E I hf st hg
    subst hP hw hK
    obtain ⟨⟨old, he⟩, hit, hne⟩ := st
    obtain ⟨xs, x, hq, hx⟩ := hg
    obtain ⟨its, rv, p, hz⟩ := I.tuple hq
    have p : s.heap.IsTuple a its.toArray := p
    obtain ⟨u, hu, ru⟩ := rv.get hx
    have hel : e < s.heap.objs.size := Heap.lt_size he
    have hil : it < s.heap.objs.size := by obtain ⟨_, q, _⟩ := hit; exact Heap.lt_size q
    have nea := enum_ne he p
    refine wpAny_pyNext_enum_itemC (n := its.toArray.size) (Draws.tuple (A := X.A.in1) (I.ok.hd hc) it a (tupIter_ne hit p) its.toArray) he ⟨hit, p⟩ ?_ hne (by simp only [List.mem_cons, List.not_mem_nil, or_false, not_or]; exact ⟨hne, nea⟩) fun y h' tk hP ho hst hT hsz hk => ?_
    · rw [List.size_toArray]
      exact (List.getElem?_eq_some_iff.mp hu).1
    have ey : y = u := by
      have hP : its.toArray[i]? = some y := hP
      rw [List.getElem?_toArray, hu] at hP
      exact (Option.some.inj hP).symm
    subst ey
    refine ⟨_, rfl, wpAny_letOwnedTupleGo_enum (s := { s with heap := h', toks := tk + 1 }) ho fun h'' he' sb => ?_⟩
    have hT2 : h''.get? s.heap.objs.size = some { cls := .type "tuple", data := .seq #[.int i tk, y] } := (sb.2 _ (Nat.ne_of_gt hel)).trans hT
    have new : ObjOk X.prog X.w (upd H s.heap.objs.size (.tup [.int (i : Nat), x])) h'' s.heap.objs.size (.tup [.int (i : Nat), x]) :=
      ⟨by show 2 ≤ sizeLine; decide, [.int i tk, y], .cons ⟨_, rfl⟩ (.cons ru .nil), ⟨_, hT2, rfl, _, rfl⟩⟩
    have I1 : Inv X pins σ (upd H s.heap.objs.size (.tup [.int (i : Nat), x])) { s with heap := h'', toks := tk + 1 } :=
      I.turnedNew (ch := [e, it]) (fun b ob hb q => (sb.2 b (fun z => hb (by simp [z]))).trans (hk b ob (fun z => hb (by simp [z])) (fun z => hb (by simp [z])) q)) hf (Nat.le_refl _) new
    refine ⟨.ref s.heap.objs.size, _, I1, rfl, ⟨_, x, rfl, I.hok.fresh (Nat.le_refl _), rfl, fun ys hy => by rw [I.tuple_inj hy hq]; exact hx⟩, ⟨⟨y, ?_⟩, hst.1.at fun o q => (sb.2 it (Ne.symm hne)).trans q, hne⟩, fun b hb => ?_⟩
    · have e1 : ((i + 1 : Nat) : Int) = (i : Int) + 1 := by omega
      rw [e1]; exact he'
    · have hb' : b < s.heap.objs.size := by
        have e' : b = e ∨ b = it := by simpa using hb
        rcases e' with z | z
        · rw [z]; exact hel
        · rw [z]; exact hil
      rw [upd_ne (Nat.ne_of_lt hb')]
      exact (hf b hb).1
  done := by
    intro X hP hw hK hc i pins s σ H E I hf st hg
    subst hP hw hK
    obtain ⟨⟨old, he⟩, hit, hne⟩ := st
    obtain ⟨xs, hq, hx⟩ := hg
    obtain ⟨its, rv, p, hz⟩ := I.tuple hq
    have p : s.heap.IsTuple a its.toArray := p
    obtain ⟨f0, f1, f2, f3, f4, f5⟩ := hf it (by simp)
    have hl := rv.length
    have ei : i = its.toArray.size := by simp; omega
    subst ei
    exact wpAny_pyNext_enum_endD (Draws.tuple (A := X.A.in1) (I.ok.hd hc) it a (tupIter_ne hit p) its.toArray) he ⟨hit, p⟩ fun h' eb => ⟨rfl, I.turned (t' := s.toks) (fun b o hb q => eb b o hb q) f0 f1 f3 f4 f5⟩
  self := fun A i s Q E st h => let ⟨⟨_, he⟩, _⟩ := st; wpAny_pyIter_enum he h
def iEnumA (K : PySem.W.Frag) (ta : TA) : TI := fun σ H R => ta σ H fun vs H1 => ∃ a xs, vs = [.ref a] ∧ ((SqL K H1 a xs ∧ R (Ite K a) H1) ∨ (SqT K H1 a xs ∧ R (IteT K a) H1))
theorem pi_enumA {X : Cx} {e : Expr} {ta : TA} {p pos tpos : Pos} {elts : List Expr} {kk : Nat} (hg : Gl X "enumerate") (hm : X.mg "enumerate" = none) (ha : PA X [e] ta) (hs : starEach [e] X.env = [(false, eval e X.env)] := by rfl) :
    PI X (.Tuple elts kk tpos) (.Call (.Name "enumerate" p) [e] [] pos) (iEnumA X.K ta) := by
  refine ⟨fun pins s σ H R I h => ?_⟩
  refine Call_ (ld_blt I hg hm boot_enumerate (PyProof.Rows.callWith_type1 (thn (ha.run pos pins s σ H _ I h) fun us s1 ⟨vs, H1, I1, r1, q1⟩ => ?_) hs rfl))
  obtain ⟨a, xs, ex, q1⟩ := q1
  subst ex
  cases r1 with
  | cons r rr =>
    cases rr
    cases r
    have fp : ∀ b, b ∈ [s1.heap.objs.size + 1, s1.heap.objs.size] → FpOk X pins H1 b := fun b hb => by
      have e' : b = s1.heap.objs.size + 1 ∨ b = s1.heap.objs.size := by simpa using hb
      have hle : s1.heap.objs.size ≤ b := by
        rcases e' with z | z
        · rw [z]; exact Nat.le_add_right _ _
        · rw [z]; exact Nat.le_refl _
      exact I1.fpOk hle (I1.hok.fresh hle)
    rcases q1 with ⟨hq, q⟩ | ⟨hq, q⟩
    · obtain ⟨its, rv, p', hz⟩ := I1.list hq
      refine call_enumerate_list p'.isList fun h' he hit hsz hk => wpAny_pyIter_enum he ?_
      have I2 : Inv X pins σ H1 { s1 with heap := h' } := I1.kept (t' := s1.toks) hk
      exact ⟨s1.heap.objs.size + 1, [s1.heap.objs.size + 1, s1.heap.objs.size], _, _, H1, rfl, I2, turn_enum a (s1.heap.objs.size + 1) s1.heap.objs.size, ⟨⟨.none, he⟩, hit, Nat.succ_ne_self _⟩, fp, q⟩
    · obtain ⟨its, rv, p', hz⟩ := I1.tuple hq
      refine call_enumerate_tuple (show s1.heap.IsTuple a its.toArray from p') fun h' he hit hsz hk => wpAny_pyIter_enum he ?_
      have I2 : Inv X pins σ H1 { s1 with heap := h' } := I1.kept (t' := s1.toks) hk
      exact ⟨s1.heap.objs.size + 1, [s1.heap.objs.size + 1, s1.heap.objs.size], _, _, H1, rfl, I2, turn_enumT a (s1.heap.objs.size + 1) s1.heap.objs.size, ⟨⟨.none, he⟩, hit, Nat.succ_ne_self _⟩, fp, q⟩
theorem walk_enumT {K : PySem.W.Frag} {a : Addr} {xs : List V} : Walk (IteT K a) xs.length (fun H => SqT K H a xs) (YPair (fun i => some (.int (i : Nat))) (fun i => xs[i]?)) := by
  refine ⟨fun i _ hi q => ⟨xs, xs[i], q, by simp [hi]⟩, fun _ q => ⟨xs, q, rfl⟩, fun i H v H' _ q y => ?_⟩
  obtain ⟨T, x, h1, h2, h3, h4⟩ := y
  exact ⟨T, .int (i : Nat), x, h1, h2, h3, rfl, h4 xs q⟩
end L2

end
section
set_option maxHeartbeats 2000000
namespace L2
open PySem PySem.Spec PyProof.Rows
/-- a list (false) or a tuple (true) that is read -/
def SqS (k : Bool) (K : PySem.W.Frag) (H : Hp) (a : Addr) (xs : List V) : Prop := match k with
  | true => SqT K H a xs
  | false => SqL K H a xs
def SIs (k : Bool) (h : Heap) (a : Addr) (vs : Array Value) : Prop := match k with
  | true => h.IsTuple a vs
  | false => h.IsList a vs
def SIter (k : Bool) (h : Heap) (it a : Addr) (i : Nat) : Prop := match k with
  | true => h.IsTupleIter it a i
  | false => h.IsListIter it a i
def sCls (k : Bool) : String := match k with
  | true => "tuple_iterator"
  | false => "list_iterator"
theorem drawsS {prog : Program} {w : World} {A : Around} (hh : A.handled = none) (k : Bool) (it t : Addr) (hne : t ≠ it) (items : Array Value) :
    Draws prog w A it [it, t] items.size (fun i v => items[i]? = some v) (fun i h => SIter k h it t i ∧ SIs k h t items) := by
  cases k with
  | true => exact Draws.tuple hh it t hne items
  | false => exact Draws.list hh it t hne items
theorem beginsS (k : Bool) (l : Addr) (items : Array Value) : Begins (.ref l) { cls := .type (sCls k), data := .fields #[.ref l, .int 0 0] } fun h => SIs k h l items := by
  cases k with
  | true => exact begins_tuple l items
  | false => exact begins_list l items
theorem SIter.obj {k : Bool} {h : Heap} {it a : Addr} {i : Nat} (s : SIter k h it a i) : ∃ o, h.get? it = some o ∧ ∀ v, o.data ≠ .cell v := by
  cases k with
  | true => obtain ⟨o, e, _, d⟩ := s; exact ⟨o, e, fun v q => by rw [d] at q; cases q⟩
  | false => obtain ⟨o, e, _, d⟩ := s; exact ⟨o, e, fun v q => by rw [d] at q; cases q⟩
theorem SIter.at {k : Bool} {h h' : Heap} {it a : Addr} {i : Nat} (s : SIter k h it a i) (e : ∀ o, h.get? it = some o → h'.get? it = some o) : SIter k h' it a i := by
  cases k with
  | true => exact Heap.IsTupleIter.at s e
  | false => exact Heap.IsListIter.at s e
theorem SIter.new {k : Bool} {h : Heap} {it a : Addr} (e : h.get? it = some { cls := .type (sCls k), data := .fields #[.ref a, .int 0 0] }) : SIter k h it a 0 := by
  cases k with
  | true => exact ⟨_, e, rfl, rfl⟩
  | false => exact ⟨_, e, rfl, rfl⟩
theorem Inv.seqS {X : Cx} {pins : List (Addr × Obj)} {σ : List (Option V)} {H : Hp} {s : Shared} {k : Bool} {a : Addr} {xs : List V} (I : Inv X pins σ H s) (h : SqS k X.K H a xs) : ∃ its : List Value, Vals xs its ∧ SIs k s.heap a its.toArray ∧ xs.length ≤ sizeLine := by
  cases k with
  | true => obtain ⟨its, r, p, z⟩ := I.tuple h; exact ⟨its, r, p, z⟩
  | false => obtain ⟨its, r, p, z⟩ := I.list h; exact ⟨its, r, p.isList, z⟩
theorem Inv.injS {X : Cx} {pins : List (Addr × Obj)} {σ : List (Option V)} {H : Hp} {s : Shared} {k : Bool} {a : Addr} {xs ys : List V} (I : Inv X pins σ H s) (h : SqS k X.K H a xs) (h' : SqS k X.K H a ys) : xs = ys := by
  cases k with
  | true => exact I.tuple_inj h h'
  | false => exact I.list_inj h h'
theorem SIs.lt {k : Bool} {h : Heap} {a : Addr} {vs : Array Value} (s : SIs k h a vs) : a < h.objs.size := by
  cases k with
  | true => obtain ⟨o, e, _⟩ := s; exact Heap.lt_size e
  | false => obtain ⟨o, e, _⟩ := s; exact Heap.lt_size e
/-- the two as they stand at each turn, their items in new pairs -/
def ItzS (k1 k2 : Bool) (K : PySem.W.Frag) (a b : Addr) : It :=
  ⟨fun i H => ∃ (xs ys : List V) (x y : V), SqS k1 K H a xs ∧ SqS k2 K H b ys ∧ xs[i]? = some x ∧ ys[i]? = some y,
    fun i H v H' => ∃ T x y, v = .ref T ∧ H T = none ∧ H' = upd H T (.tup [x, y]) ∧ (∀ xs, SqS k1 K H a xs → xs[i]? = some x) ∧ ∀ ys, SqS k2 K H b ys → ys[i]? = some y,
    fun i H => ∃ xs ys : List V, SqS k1 K H a xs ∧ SqS k2 K H b ys ∧ i ≤ xs.length ∧ i ≤ ys.length ∧ (i = xs.length ∨ i = ys.length)⟩
theorem turn_zipS {P : Program} {w : World} {K : PySem.W.Frag} {k1 k2 : Bool} {elts : List Expr} {kk : Nat} {tpos : Pos} {a b z TI TO i1 i2 : Addr} (D : ZipSep2 z TI TO i1 i2 [i1, a] [i2, b]) :
    Turn P w K (.Tuple elts kk tpos) (ItzS k1 k2 K a b) [z, TI, TO, i1, i2] z (fun i h => IsZip h z TI TO .none ∧ IsTupOf2 h TI (.ref i1) (.ref i2) ∧ (∃ x y, IsTupOf2 h TO x y) ∧ SIter k1 h i1 a i ∧ SIter k2 h i2 b i) where
  mem := by simp
  obj := fun i h st c hc => by
    obtain ⟨hz, hTI, ⟨x, y, hTO⟩, h1, h2⟩ := st
    have e' : c = z ∨ c = TI ∨ c = TO ∨ c = i1 ∨ c = i2 := by simpa using hc
    rcases e' with q | q | q | q | q
    · rw [q]; exact ⟨_, hz, fun v q => nomatch q⟩
    · rw [q]; exact ⟨_, hTI, fun v q => nomatch q⟩
    · rw [q]; exact ⟨_, hTO, fun v q => nomatch q⟩
    · rw [q]; exact h1.obj
    · rw [q]; exact h2.obj
  keep := fun i h h' st k => by
    obtain ⟨hz, hTI, ⟨x, y, hTO⟩, h1, h2⟩ := st
    exact ⟨k z (by simp) _ hz, k TI (by simp) _ hTI, ⟨x, y, k TO (by simp) _ hTO⟩, h1.at fun o q => k i1 (by simp) o q, h2.at fun o q => k i2 (by simp) o q⟩
  item := by
    intro X hP hw hK hc i pins s σ H E I hf st hg
    subst hP hw hK
    obtain ⟨hz, hTI, ⟨x0, y0, hTO⟩, h1, h2⟩ := st
    obtain ⟨xs, ys, x, y, hqx, hqy, hx, hy⟩ := hg
    obtain ⟨its, rv, p, _⟩ := I.seqS hqx
    obtain ⟨its2, rv2, p2, _⟩ := I.seqS hqy
    obtain ⟨u, hu, ru⟩ := rv.get hx
    obtain ⟨u2, hu2, ru2⟩ := rv2.get hy
    have hzl : z < s.heap.objs.size := Heap.lt_size hz
    have na : a ≠ i1 := by
      intro e
      have q1 := h1.obj
      cases k1 with
      | true =>
        obtain ⟨o, e1, c1, _⟩ := h1
        obtain ⟨o', e2, c2, _⟩ := p
        rw [e, e1] at e2; cases e2
        rw [c1] at c2; exact absurd (Value.type.inj c2) (by decide)
      | false =>
        obtain ⟨o, e1, c1, _⟩ := h1
        obtain ⟨o', e2, c2, _⟩ := p
        rw [e, e1] at e2; cases e2
        rw [c1] at c2; exact absurd (Value.type.inj c2) (by decide)
    have nb : b ≠ i2 := by
      intro e
      cases k2 with
      | true =>
        obtain ⟨o, e1, c1, _⟩ := h2
        obtain ⟨o', e2, c2, _⟩ := p2
        rw [e, e1] at e2; cases e2
        rw [c1] at c2; exact absurd (Value.type.inj c2) (by decide)
      | false =>
        obtain ⟨o, e1, c1, _⟩ := h2
        obtain ⟨o', e2, c2, _⟩ := p2
        rw [e, e1] at e2; cases e2
        rw [c1] at c2; exact absurd (Value.type.inj c2) (by decide)
    refine wpAny_pyNext_zipD2_item (n1 := its.toArray.size) (n2 := its2.toArray.size) D (drawsS (A := X.A.in1) (I.ok.hd hc) k1 i1 a na its.toArray) (drawsS (A := X.A.in1) (I.ok.hd hc) k2 i2 b nb its2.toArray) hz hTI hTO ⟨h1, p⟩ ⟨h2, p2⟩ ?_ ?_ fun y1 y2 h' tk e1 e2 z' TO' h1' h2' hT hsz hk => ?_
    · rw [List.size_toArray]; exact (List.getElem?_eq_some_iff.mp hu).1
    · rw [List.size_toArray]; exact (List.getElem?_eq_some_iff.mp hu2).1
    have ey : y1 = u := by
      have hP : its.toArray[i]? = some y1 := e1
      rw [List.getElem?_toArray, hu] at hP
      exact (Option.some.inj hP).symm
    have ey2 : y2 = u2 := by
      have hP : its2.toArray[i]? = some y2 := e2
      rw [List.getElem?_toArray, hu2] at hP
      exact (Option.some.inj hP).symm
    subst ey ey2
    refine ⟨_, rfl, wpAny_letOwnedTupleGo_zip (s := { s with heap := h', toks := tk }) z' fun h'' z'' sb => ?_⟩
    have hT2 : h''.get? s.heap.objs.size = some { cls := .type "tuple", data := .seq #[y1, y2] } := (sb.2 _ (Nat.ne_of_gt hzl)).trans hT
    have new : ObjOk X.prog X.w (upd H s.heap.objs.size (.tup [x, y])) h'' s.heap.objs.size (.tup [x, y]) :=
      ⟨by show 2 ≤ sizeLine; decide, [y1, y2], .cons ru (.cons ru2 .nil), ⟨_, hT2, rfl, _, rfl⟩⟩
    have I1 : Inv X pins σ (upd H s.heap.objs.size (.tup [x, y])) { s with heap := h'', toks := tk } :=
      I.turnedNew (t' := tk) (ch := [z, TI, TO, i1, i2]) (fun c o hb q => (sb.2 c (fun q' => hb (by simp [q']))).trans (hk c o (fun q' => hb (by simp [q'])) (fun q' => hb (by simp [q'])) (fun q' => hb (by simp [q'])) (fun q' => hb (by simp [q'])) q)) hf (Nat.le_refl _) new
    refine ⟨.ref s.heap.objs.size, _, I1, rfl, ⟨_, x, y, rfl, I.hok.fresh (Nat.le_refl _), rfl, fun l hl => by rw [I.injS hl hqx]; exact hx, fun l hl => by rw [I.injS hl hqy]; exact hy⟩, ⟨z'', ?_, ⟨y1, y2, ?_⟩, ?_, ?_⟩, fun c hcm => ?_⟩
    · exact (sb.2 _ D.TIz).trans (hk _ _ D.TIz D.TITO D.TIi1 D.TIi2 hTI)
    · exact (sb.2 _ D.TOz).trans TO'
    · exact h1'.1.at fun o q => (sb.2 _ (Ne.symm D.zi1)).trans q
    · exact h2'.1.at fun o q => (sb.2 _ (Ne.symm D.zi2)).trans q
    · have hlt : c < s.heap.objs.size := by
        have e' : c = z ∨ c = TI ∨ c = TO ∨ c = i1 ∨ c = i2 := by simpa using hcm
        rcases e' with q | q | q | q | q
        · rw [q]; exact hzl
        · rw [q]; exact Heap.lt_size hTI
        · rw [q]; exact Heap.lt_size hTO
        · rw [q]; obtain ⟨_, e1, _⟩ := h1.obj; exact Heap.lt_size e1
        · rw [q]; obtain ⟨_, e2, _⟩ := h2.obj; exact Heap.lt_size e2
      rw [upd_ne (Nat.ne_of_lt hlt)]
      exact (hf c hcm).1
  done := by
    intro X hP hw hK hc i pins s σ H E I hf st hg
    subst hP hw hK
    obtain ⟨hz, hTI, ⟨x0, y0, hTO⟩, h1, h2⟩ := st
    obtain ⟨xs, ys, hqx, hqy, l1, l2, hend⟩ := hg
    obtain ⟨its, rv, p, _⟩ := I.seqS hqx
    obtain ⟨its2, rv2, p2, _⟩ := I.seqS hqy
    have e1 := rv.length
    have e2 := rv2.length
    have na : a ≠ i1 := by
      intro e
      cases k1 with
      | true =>
        obtain ⟨o, e1, c1, _⟩ := h1
        obtain ⟨o', e2, c2, _⟩ := p
        rw [e, e1] at e2; cases e2
        rw [c1] at c2; exact absurd (Value.type.inj c2) (by decide)
      | false =>
        obtain ⟨o, e1, c1, _⟩ := h1
        obtain ⟨o', e2, c2, _⟩ := p
        rw [e, e1] at e2; cases e2
        rw [c1] at c2; exact absurd (Value.type.inj c2) (by decide)
    have nb : b ≠ i2 := by
      intro e
      cases k2 with
      | true =>
        obtain ⟨o, e1, c1, _⟩ := h2
        obtain ⟨o', e2, c2, _⟩ := p2
        rw [e, e1] at e2; cases e2
        rw [c1] at c2; exact absurd (Value.type.inj c2) (by decide)
      | false =>
        obtain ⟨o, e1, c1, _⟩ := h2
        obtain ⟨o', e2, c2, _⟩ := p2
        rw [e, e1] at e2; cases e2
        rw [c1] at c2; exact absurd (Value.type.inj c2) (by decide)
    refine wpAny_pyNext_zipD2_end (n1 := its.toArray.size) (n2 := its2.toArray.size) D (drawsS (A := X.A.in1) (I.ok.hd hc) k1 i1 a na its.toArray) (drawsS (A := X.A.in1) (I.ok.hd hc) k2 i2 b nb its2.toArray) hz hTI hTO ⟨h1, p⟩ ⟨h2, p2⟩ ?_ ?_ ?_ fun h' tk hk => ⟨rfl, I.turnedL (t' := tk) (ch := [z, TI, TO, i1, i2]) (fun c o hb q =>
      hk c o (fun q' => hb (by simp [q'])) (fun q' => hb (by simp [q'])) (fun q' => hb (by simp [q'])) (fun q' => hb (by simp [q'])) q) hf⟩
    · rw [List.size_toArray]; omega
    · rw [List.size_toArray]; omega
    · rw [List.size_toArray, List.size_toArray]; omega
  self := fun A i s Q E st h => wpAny_pyIter_zip st.1 h
def iZipS (K : PySem.W.Frag) (ta : TA) : TI := fun σ H R => ta σ H fun vs H1 => ∃ k1 k2 a b xs ys, vs = [.ref a, .ref b] ∧ SqS k1 K H1 a xs ∧ SqS k2 K H1 b ys ∧ R (ItzS k1 k2 K a b) H1
theorem pi_zipS {X : Cx} {e e2 : Expr} {ta : TA} {p pos tpos : Pos} {elts : List Expr} {kk : Nat} (hg : Gl X "zip") (hm : X.mg "zip" = none) (ha : PA X [e, e2] ta)
    (hs : starEach [e, e2] X.env = (false, eval e X.env) :: starEach [e2] X.env := by rfl) (hpl : (backTo pos (starEach [e2] X.env)).any (·.1) = false := by rfl) :
    PI X (.Tuple elts kk tpos) (.Call (.Name "zip" p) [e, e2] [] pos) (iZipS X.K ta) := by
  refine ⟨fun pins s σ H R I h => ?_⟩
  refine Call_ (ld_blt I hg hm PyProof.Rows.boot_zip (PyProof.Rows.callWith_type1 (thn (ha.run pos pins s σ H _ I h) fun us s1 ⟨vs, H1, I1, r1, q1⟩ => ?_) hs hpl))
  obtain ⟨k1, k2, a, b, xs, ys, ex, hqx, hqy, q⟩ := q1
  subst ex
  cases r1 with
  | cons r rr =>
    cases rr with
    | cons r' rr =>
      cases rr
      cases r
      cases r'
      have fresh5 : ∀ c, c ∈ [s1.heap.objs.size + 4, s1.heap.objs.size + 2, s1.heap.objs.size + 3, s1.heap.objs.size, s1.heap.objs.size + 1] → FpOk X pins H1 c := fun c hcm => by
        have e' : c = s1.heap.objs.size + 4 ∨ c = s1.heap.objs.size + 2 ∨ c = s1.heap.objs.size + 3 ∨ c = s1.heap.objs.size ∨ c = s1.heap.objs.size + 1 := by simpa using hcm
        have hle : s1.heap.objs.size ≤ c := by
          rcases e' with z | z | z | z | z
          · rw [z]; exact Nat.le_add_right _ _
          · rw [z]; exact Nat.le_add_right _ _
          · rw [z]; exact Nat.le_add_right _ _
          · rw [z]; exact Nat.le_refl _
          · rw [z]; exact Nat.le_add_right _ _
        exact I1.fpOk hle (I1.hok.fresh hle)
      obtain ⟨its, rv, p1, _⟩ := I1.seqS hqx
      obtain ⟨its2, rv2, p2, _⟩ := I1.seqS hqy
      refine zip_begins2 (beginsS k1 a its.toArray) (beginsS k2 b its2.toArray) p1 p2 fun h' hz hTI hTO o1 o2 hsz hk => wpAny_pyIter_zip hz ?_
      have I2 : Inv X pins σ H1 { s1 with heap := h' } := I1.kept (t' := s1.toks) hk
      exact ⟨s1.heap.objs.size + 4, [s1.heap.objs.size + 4, s1.heap.objs.size + 2, s1.heap.objs.size + 3, s1.heap.objs.size, s1.heap.objs.size + 1], _, _, H1, rfl, I2,
        turn_zipS (zip_sep2 (fp1 := [a]) (fp2 := [b]) (fun c hc => by rw [List.mem_singleton.mp hc]; exact p1.lt) (fun c hc => by rw [List.mem_singleton.mp hc]; exact p2.lt)), ⟨hz, hTI, ⟨_, _, hTO⟩, SIter.new o1, SIter.new o2⟩, fresh5, q⟩
theorem walk_zipS {k1 k2 : Bool} {K : PySem.W.Frag} {a b : Addr} {xs ys : List V} {n : Nat} (hn : n = min xs.length ys.length) : Walk (ItzS k1 k2 K a b) n (fun H => SqS k1 K H a xs ∧ SqS k2 K H b ys) (YPair (fun i => xs[i]?) (fun i => ys[i]?)) := by
  subst hn
  refine ⟨fun i _ hi q => ?_, fun _ q => ⟨xs, ys, q.1, q.2, by omega, by omega, by omega⟩, fun i H v H' _ q y => ?_⟩
  · have h1 : i < xs.length := by omega
    have h2 : i < ys.length := by omega
    exact ⟨xs, ys, xs[i], ys[i], q.1, q.2, by simp [h1], by simp [h2]⟩
  · obtain ⟨T, x, z, h1, h2, h3, h4, h5⟩ := y
    exact ⟨T, x, z, h1, h2, h3, h4 xs q.1, h5 ys q.2⟩
end L2

end
section
set_option maxHeartbeats 1000000
open PySem PySem.Spec PyProof.Rows
namespace Mi
open L2
section
variable {K : PySem.W.Frag} {R : ORel} {B : Bs} {F F' H H' : Hp} {w w' : Addr → Option Nat} {ρ ρ' : Ev} {σ : St}
/-! ### stores -/
/-- what a fresh object of one's own is -/
def Frs (B : Bs) (F H : Hp) (w : Addr → Option Nat) (S : Addr → Prop) : Prop := ∀ a, S a → F a = none ∧ w a = none ∧ H a ≠ none ∧ B.H a = none
theorem Frs.no : Frs B F H w (fun _ => False) := fun _ h => h.elim
theorem getElem?_set_cases {α : Type} {l : List α} {i j : Nat} {x y : α} (h : (l.set i x)[j]? = some y) : (j = i ∧ y = x ∧ i < l.length) ∨ (j ≠ i ∧ l[j]? = some y) := by
  by_cases e : j = i
  · subst e
    have hl : j < l.length := by
      have := (List.getElem?_eq_some_iff.mp h).1
      rwa [List.length_set] at this
    rw [List.getElem?_set_self hl] at h
    exact .inl ⟨rfl, (Option.some.inj h).symm, hl⟩
  · rw [List.getElem?_set_ne (Ne.symm e)] at h
    exact .inr ⟨e, h⟩
open Classical in
theorem WF.set1 (W : WF K R B F w ρ σ H) {i : Nat} {v : V} {s : Sl} {S : Addr → Prop} (r : VR K R F H S v s) (f : Frs B F H w S) : ∃ w', WF K R B F w' (ρ.set i s) (σ.set i (some v)) H ∧ ∀ a, ¬ S a → w' a = w a := by
  refine ⟨fun a => if S a then some i else w a, ⟨W.fh, W.f0, W.fn, fun a j h => ?_, W.keep, W.dom, by rw [List.length_set, List.length_set]; exact W.len, fun j s' h => ?_⟩, fun a h => if_neg h⟩
  · by_cases hs : S a
    · exact ⟨(f a hs).1, (f a hs).2.2.1, .inl (f a hs).2.2.2⟩
    · rw [if_neg hs] at h
      exact W.wf a j h
  · rcases getElem?_set_cases h with ⟨rfl, rfl, hl⟩ | ⟨hne, h⟩
    · have hl' : j < σ.length := by rw [W.len]; exact hl
      have key : VR K R F H (fun a => (if S a then some j else w a) = some j) v s' := r.wide fun a ha => if_pos ha
      cases s' with
      | no => trivial
      | fr d => exact ⟨v, List.getElem?_set_self hl', key⟩
      | ow d => exact ⟨v, List.getElem?_set_self hl', key⟩
      | ob c d => exact ⟨v, List.getElem?_set_self hl', key⟩
    · have q := W.sl j s' h
      have key : ∀ u, VR K R F H (fun a => w a = some j) u s' → VR K R F H (fun a => (if S a then some i else w a) = some j) u s' := fun u z => z.wide fun a ha => by
        have ns : ¬ S a := fun hs => by
          have := (f a hs).2.1
          rw [this] at ha; cases ha
        rw [if_neg ns]; exact ha
      cases s' with
      | no => trivial
      | fr d => obtain ⟨u, e, z⟩ := q; exact ⟨u, by rw [List.getElem?_set_ne (Ne.symm hne)]; exact e, key u z⟩
      | ow d => obtain ⟨u, e, z⟩ := q; exact ⟨u, by rw [List.getElem?_set_ne (Ne.symm hne)]; exact e, key u z⟩
      | ob c d => obtain ⟨u, e, z⟩ := q; exact ⟨u, by rw [List.getElem?_set_ne (Ne.symm hne)]; exact e, key u z⟩
theorem WF.setF (W : WF K R B F w ρ σ H) {i : Nat} {v : V} {d : D} (r : Rp K F v d) : WF K R B F w (ρ.set i (.fr d)) (σ.set i (some v)) H := by
  obtain ⟨w', h, hw⟩ := W.set1 (i := i) (s := .fr d) (S := fun _ => False) r Frs.no
  have e : w' = w := funext fun a => hw a fun z => z
  subst e
  exact h
/-- forgetting a slot's data -/
theorem WF.drop (W : WF K R B F w ρ σ H) {σ' : St} (hl : σ'.length = σ.length) (hk : ∀ (i : Nat) s v, ρ'[i]? = some s → s ≠ .no → σ[i]? = some (some v) → σ'[i]? = some (some v)) (hr : ρ'.length = ρ.length) (hs : ∀ (i : Nat) s, ρ'[i]? = some s → s = .no ∨ ρ[i]? = some s) : WF K R B F w ρ' σ' H := by
  refine ⟨W.fh, W.f0, W.fn, W.wf, W.keep, W.dom, by rw [hl, W.len, hr], fun i s h => ?_⟩
  rcases hs i s h with e | e
  · subst e; trivial
  · have q := W.sl i s e
    cases s with
    | no => trivial
    | fr d => obtain ⟨v, e1, z⟩ := q; exact ⟨v, hk i _ v h (fun z => nomatch z) e1, z⟩
    | ow d => obtain ⟨v, e1, z⟩ := q; exact ⟨v, hk i _ v h (fun z => nomatch z) e1, z⟩
    | ob c d => obtain ⟨v, e1, z⟩ := q; exact ⟨v, hk i _ v h (fun z => nomatch z) e1, z⟩
/-- an object of one's own is let stand still -/
theorem WF.freeze (W : WF K R B F w ρ σ H) {a : Addr} {o : HO} (h : H a = some o) (hf : F a = none) (hb : B.H a = none) (hρ : ∀ (i : Nat) s, ρ'[i]? = some s → s = .no ∨ (∃ d v, s = .fr d ∧ σ[i]? = some (some v) ∧ Rp K (upd F a o) v d) ∨ (ρ[i]? = some s ∧ w a ≠ some i)) (hl : ρ'.length = ρ.length) :
    ∃ w', WF K R B (upd F a o) w' ρ' σ H := by
  have ff : Same F (upd F a o) := fun b u e => by rw [upd_ne (ne_of_none e hf)]; exact e
  refine ⟨fun b => if b = a then none else w b, ⟨fun b u e => ?_, W.f0.trans ff, fun b e => ?_, fun b i e => ?_, W.keep, W.dom, by rw [W.len, hl], fun i s e => ?_⟩⟩
  · by_cases q : b = a
    · subst q; rw [upd_same] at e; cases e; exact h
    · rw [upd_ne q] at e; exact W.fh b u e
  · by_cases q : b = a
    · subst q; exact .inr hb
    · rw [upd_ne q] at e; exact W.fn b e
  · by_cases q : b = a
    · rw [if_pos q] at e; cases e
    · rw [if_neg q] at e
      rw [upd_ne q]; exact W.wf b i e
  · rcases hρ i s e with z | ⟨d, v, rfl, e1, r⟩ | ⟨e1, hw⟩
    · subst z; trivial
    · exact ⟨v, e1, r⟩
    · refine (W.sl i s e1).imp fun v z => (z.up ff fun _ _ => rfl).wide fun b hb => ?_
      show (if b = a then none else w b) = some i
      rw [if_neg (fun q => hw (by rw [← q]; exact hb))]; exact hb

/-! ### something new, one's own -/
/-- a new list -/
def tNL (K : PySem.W.Frag) (R : ORel) (m : Ev → Option (List D)) : TE := fun σ H Q => ∃ B F w ρ ds, WF K R B F w ρ σ H ∧ m ρ = some ds ∧ ∀ a vs F' H', Ext F H F' H' → F' a = none → H a = none → H' a = some (.lst vs) → RpAll K F' vs ds → Q (.ref a) H'
def mList (m : Ev → Option (List D)) : Ev → Option D := fun ρ => (m ρ).map .list
end
section
variable {X : Cx} {R : ORel} {e a b c : Expr} {es : List Expr} {m ma mb mc : Ev → Option D} {pos : Pos}
/-- a new list that is let stand still at once -/
theorem nf {n : Ev → Option (List D)} (h : PE X e (tNL X.K R n)) : PE X e (tF X.K R (mList n)) := h.imp fun σ H Q ⟨B, F, w, ρ, d, W, h, q⟩ => by
  obtain ⟨ds, h1, h⟩ := Option.map_eq_some_iff.mp h
  subst h
  refine ⟨B, F, w, ρ, ds, W, h1, fun a vs F' H' E nf nh hh hr => ?_⟩
  have ff : Same F' (upd F' a (.lst vs)) := fun b u e => by rw [upd_ne (ne_of_none e nf)]; exact e
  refine q _ (upd F' a (.lst vs)) H' ⟨E.ff.trans ff, fun b u e => ?_, E.hh, fun b e => ?_⟩ (.lst upd_same (hr.up ff))
  · by_cases z : b = a
    · subst z; rw [upd_same] at e; cases e; exact hh
    · rw [upd_ne z] at e; exact E.fh b u e
  · by_cases z : b = a
    · subst z; exact .inr nh
    · rw [upd_ne z] at e; exact E.nw b e

/-! ### arguments, displays -/
theorem paf_nil : PA X [] (tAF X.K R fun _ => some []) := pa_nil.imp fun σ H Q ⟨B, F, w, ρ, d, W, h, q⟩ => by
  cases h
  exact q [] F H (.refl W.fh) .nil
def mCons (m : Ev → Option D) (n : Ev → Option (List D)) : Ev → Option (List D) := fun ρ => (m ρ).bind fun d => (n ρ).bind fun ds => some (d :: ds)
theorem paf_cons {n : Ev → Option (List D)} (ha : PE X e (tF X.K R m)) (hr : PA X es (tAF X.K R n)) (hs : starEach (e :: es) X.env = (false, eval e X.env) :: starEach es X.env := by rfl) : PA X (e :: es) (tAF X.K R (mCons m n)) :=
  (pa_cons ha hr hs).imp fun σ H Q ⟨B, F, w, ρ, ds, W, h, q⟩ => by
    obtain ⟨x, h1, h⟩ := Option.bind_eq_some_iff.mp h
    obtain ⟨xs, h2, h⟩ := Option.bind_eq_some_iff.mp h
    injection h with h; subst h
    refine ⟨B, F, w, ρ, x, W, h1, fun v F1 H1 E1 r1 => ?_⟩
    exact ⟨B, F1, w, ρ, xs, W.ext E1, h2, fun vs F2 H2 E2 r2 => q _ F2 H2 (E1.trans E2) (.cons (r1.up E2.ff) r2)⟩
inductive TrAll (K : PySem.W.Frag) (F H : Hp) : List V → List D → Prop
  | nil : TrAll K F H [] []
  | cons {v : V} {vs : List V} {d : D} {ds : List D} : Tr K F H v d → TrAll K F H vs ds → TrAll K F H (v :: vs) (d :: ds)
/-- arguments, read now -/
def tAT (K : PySem.W.Frag) (R : ORel) (m : Ev → Option (List D)) : TA := fun σ H Q => ∃ B F w ρ ds, WF K R B F w ρ σ H ∧ m ρ = some ds ∧ ∀ vs F' H', Ext F H F' H' → TrAll K F' H' vs ds → Q vs H'
theorem pat_nil : PA X [] (tAT X.K R fun _ => some []) := pa_nil.imp fun σ H Q ⟨B, F, w, ρ, d, W, h, q⟩ => by
  cases h
  exact q [] F H (.refl W.fh) .nil
theorem pat_cons {n : Ev → Option (List D)} (ha : PE X e (tT X.K R m)) (hr : PA X es (tAT X.K R n)) (hs : starEach (e :: es) X.env = (false, eval e X.env) :: starEach es X.env := by rfl) : PA X (e :: es) (tAT X.K R (mCons m n)) :=
  (pa_cons ha hr hs).imp fun σ H Q ⟨B, F, w, ρ, ds, W, h, q⟩ => by
    obtain ⟨x, h1, h⟩ := Option.bind_eq_some_iff.mp h
    obtain ⟨xs, h2, h⟩ := Option.bind_eq_some_iff.mp h
    injection h with h; subst h
    refine ⟨B, F, w, ρ, x, W, h1, fun v F1 H1 E1 r1 => ?_⟩
    exact ⟨B, F1, w, ρ, xs, W.ext E1, h2, fun vs F2 H2 E2 r2 => q _ F2 H2 (E1.trans E2) (.cons (r1.up E2) r2)⟩
def mTup (n : Ev → Option (List D)) : Ev → Option D := fun ρ => (n ρ).bind fun ds => if ds.length ≤ LL then some (.tuple ds) else none
theorem pf_tup {n : Ev → Option (List D)} {x1} (h : PA X es (tAF X.K R n)) : PE X (.Tuple es x1 pos) (tF X.K R (mTup n)) := (pe_tup h).imp fun σ H Q ⟨B, F, w, ρ, d, W, h, q⟩ => by
  obtain ⟨ds, h1, h⟩ := Option.bind_eq_some_iff.mp h
  split at h
  · rename_i hl
    injection h with h; subst h
    refine ⟨B, F, w, ρ, ds, W, h1, fun vs F1 H1 E1 r1 => ⟨by rw [ll_line, r1.length]; exact hl, fun p n => ?_⟩⟩
    exact tup_new (F' := F) (H' := H) E1.fh r1 (fun v F2 H2 E2 r2 => q v F2 H2 (E1.trans E2) r2) n
  · cases h
def mLim (n : Ev → Option (List D)) : Ev → Option (List D) := fun ρ => (n ρ).bind fun ds => if ds.length ≤ LL then some ds else none
theorem lst_newM {F H : Hp} {vs : List V} {ds : List D} {K : PySem.W.Frag} (e : Same F H) (r : RpAll K F vs ds) {Q : VK} (q : ∀ a vs F' H', Ext F H F' H' → F' a = none → H a = none → H' a = some (.lst vs) → RpAll K F' vs ds → Q (.ref a) H') {p : Addr} (n : H p = none) : Q (.ref p) (upd H p (.lst vs)) :=
  q p vs F _ (Ext.newM e n) (e.free n) n upd_same r
theorem pn_lst {n : Ev → Option (List D)} (h : PA X es (tAF X.K R n)) : PE X (.List es pos) (tNL X.K R (mLim n)) := (pe_lst h).imp fun σ H Q ⟨B, F, w, ρ, d, W, h, q⟩ => by
  obtain ⟨ds, h1, h⟩ := Option.bind_eq_some_iff.mp h
  split at h
  · rename_i hl
    injection h with h; subst h
    refine ⟨B, F, w, ρ, ds, W, h1, fun vs F1 H1 E1 r1 => ⟨by rw [ll_line, r1.length]; exact hl, fun p n => ?_⟩⟩
    exact lst_newM E1.fh r1 (fun a vs F2 H2 E2 nf nh hh r2 => q a vs F2 H2 (E1.trans E2) nf (E1.hh.free nh) hh r2) n
  · cases h

/-! ### calls of built-ins -/
def CM (K : PySem.W.Frag) (r : List V → Hp → VK → Prop) (g : List D → Option D) : Prop := ∀ F H vs ds d, Same F H → TrAll K F H vs ds → g ds = some d → ∀ Q : VK, (∀ v F' H', Ext F H F' H' → Rp K F' v d → Q v H') → r vs H Q
def CN (K : PySem.W.Frag) (r : List V → Hp → VK → Prop) (g : List D → Option (List D)) : Prop := ∀ F H vs ds d, Same F H → TrAll K F H vs ds → g ds = some d → ∀ Q : VK, (∀ a vs F' H', Ext F H F' H' → F' a = none → H a = none → H' a = some (.lst vs) → RpAll K F' vs d → Q (.ref a) H') → r vs H Q
def mC {α : Type} (n : Ev → Option (List D)) (g : List D → Option α) : Ev → Option α := fun ρ => (n ρ).bind g
theorem tr_cb {K : PySem.W.Frag} {r : List V → Hp → VK → Prop} {g : List D → Option D} {n : Ev → Option (List D)} (hm : CM K r g) : ∀ σ H Q, tF K R (mC n g) σ H Q → tCB r (tAT K R n) σ H Q := by
  intro σ H Q ⟨B, F, w, ρ, d, W, h, q⟩
  obtain ⟨ds, h1, h⟩ := Option.bind_eq_some_iff.mp h
  exact ⟨B, F, w, ρ, ds, W, h1, fun vs F1 H1 E1 r1 => hm F1 H1 vs ds d E1.fh r1 h Q fun v F2 H2 E2 r2 => q v F2 H2 (E1.trans E2) r2⟩
theorem tr_cn {K : PySem.W.Frag} {r : List V → Hp → VK → Prop} {g : List D → Option (List D)} {n : Ev → Option (List D)} (hm : CN K r g) : ∀ σ H Q, tNL K R (mC n g) σ H Q → tCB r (tAT K R n) σ H Q := by
  intro σ H Q ⟨B, F, w, ρ, d, W, h, q⟩
  obtain ⟨ds, h1, h⟩ := Option.bind_eq_some_iff.mp h
  exact ⟨B, F, w, ρ, ds, W, h1, fun vs F1 H1 E1 r1 => hm F1 H1 vs ds d E1.fh r1 h Q fun a vs F2 H2 E2 nf nh hh r2 => q a vs F2 H2 (E1.trans E2) nf (E1.hh.free nh) hh r2⟩
theorem pf_callB {x : Str} {p : Pos} {id : String} {r : List V → Hp → VK → Prop} {g : List D → Option D} {n : Ev → Option (List D)} (hc : CallR X (.builtin id) r) (hm : CM X.K r g) (hg : Gl X x) (hx : X.mg x = none) (hv : bootBuiltins x = some (.builtin id)) (ha : PA X (e :: es) (tAT X.K R n)) (hn : x ≠ "__name__" := by decide) (hdb : (x == ("__debug__" : Str)) = false := by decide)
    (he : starEach (e :: es) X.env = (false, eval e X.env) :: starEach es X.env := by rfl) (hpl : (backTo pos (starEach es X.env)).any (·.1) = false := by rfl) : PE X (.Call (.Name x p) (e :: es) [] pos) (tF X.K R (mC n g)) := (pe_callB hc hg hx hv ha hn hdb he hpl).imp (tr_cb hm)
theorem pf_callTy {x : Str} {p : Pos} {T : String} {r : List V → Hp → VK → Prop} {g : List D → Option D} {n : Ev → Option (List D)} (hc : CallR X (.type T) r) (hm : CM X.K r g) (hg : Gl X x) (hx : X.mg x = none) (hv : bootBuiltins x = some (.type T)) (ha : PA X (e :: es) (tAT X.K R n)) (hn : x ≠ "__name__" := by decide) (hdb : (x == ("__debug__" : Str)) = false := by decide)
    (he : starEach (e :: es) X.env = (false, eval e X.env) :: starEach es X.env := by rfl) (hpl : (backTo pos (starEach es X.env)).any (·.1) = false := by rfl) : PE X (.Call (.Name x p) (e :: es) [] pos) (tF X.K R (mC n g)) := (pe_callTy hc hg hx hv ha hn hdb he hpl).imp (tr_cb hm)
theorem pn_callB {x : Str} {p : Pos} {id : String} {r : List V → Hp → VK → Prop} {g : List D → Option (List D)} {n : Ev → Option (List D)} (hc : CallR X (.builtin id) r) (hm : CN X.K r g) (hg : Gl X x) (hx : X.mg x = none) (hv : bootBuiltins x = some (.builtin id)) (ha : PA X (e :: es) (tAT X.K R n)) (hn : x ≠ "__name__" := by decide) (hdb : (x == ("__debug__" : Str)) = false := by decide)
    (he : starEach (e :: es) X.env = (false, eval e X.env) :: starEach es X.env := by rfl) (hpl : (backTo pos (starEach es X.env)).any (·.1) = false := by rfl) : PE X (.Call (.Name x p) (e :: es) [] pos) (tNL X.K R (mC n g)) := (pe_callB hc hg hx hv ha hn hdb he hpl).imp (tr_cn hm)
theorem pn_callTy {x : Str} {p : Pos} {T : String} {r : List V → Hp → VK → Prop} {g : List D → Option (List D)} {n : Ev → Option (List D)} (hc : CallR X (.type T) r) (hm : CN X.K r g) (hg : Gl X x) (hx : X.mg x = none) (hv : bootBuiltins x = some (.type T)) (ha : PA X (e :: es) (tAT X.K R n)) (hn : x ≠ "__name__" := by decide) (hdb : (x == ("__debug__" : Str)) = false := by decide)
    (he : starEach (e :: es) X.env = (false, eval e X.env) :: starEach es X.env := by rfl) (hpl : (backTo pos (starEach es X.env)).any (·.1) = false := by rfl) : PE X (.Call (.Name x p) (e :: es) [] pos) (tNL X.K R (mC n g)) := (pe_callTy hc hg hx hv ha hn hdb he hpl).imp (tr_cn hm)

def lenD : List D → Option D
  | [.list xs] => some (.int xs.length)
  | [.tuple xs] => some (.int xs.length)
  | [.str x] => if x.length ≤ LL then some (.int x.length) else none
  | _ => none
theorem _root_.L2.RpAll.lenI {K : PySem.W.Frag} {H : Hp} {vs : List V} {ds : List D} (h : RpAll K H vs ds) : (vs.length : Int) = ds.length := by rw [h.length]
theorem cm_len {K : PySem.W.Frag} : CM K (fun xs H Q => ∃ x n, xs = [x] ∧ LenV K x H n ∧ Q (.int n) H) lenD := by
  intro F H vs ds d e rs hg Q q
  unfold lenD at hg
  split at hg
  · injection hg with hg; subst hg
    cases rs with
    | cons r rs =>
      cases rs
      obtain ⟨a, us, rfl, h1, h2⟩ := r.list e
      exact ⟨_, us.length, rfl, .inl ⟨us, SqL.of h1, rfl⟩, by rw [h2.lenI]; exact q _ F H (.refl e) (.int _)⟩
  · injection hg with hg; subst hg
    cases rs with
    | cons r rs =>
      cases rs
      obtain ⟨a, us, rfl, h1, h2⟩ := r.tuple e
      exact ⟨_, us.length, rfl, .inr ⟨us, h1, rfl⟩, by rw [h2.lenI]; exact q _ F H (.refl e) (.int _)⟩
  · split at hg
    · injection hg with hg; subst hg
      cases rs with
      | cons r rs =>
        cases rs
        rw [r.str]
        exact ⟨_, _, rfl, ⟨by rw [ll_line]; assumption, rfl⟩, q _ F H (.refl e) (.int _)⟩
    · cases hg
  · cases hg
def absDD : List D → Option D
  | [.int i] => some (.int (if i < 0 then -i else i))
  | _ => none
theorem cm_abs {K : PySem.W.Frag} : CM K (fun xs H Q => ∃ i, xs = [.int i] ∧ Q (.int (if i < 0 then -i else i)) H) absDD := by
  intro F H vs ds d e rs hg Q q
  unfold absDD at hg
  split at hg
  · injection hg with hg; subst hg
    cases rs with
    | cons r rs => cases rs; rw [r.int]; exact ⟨_, rfl, q _ F H (.refl e) (.int _)⟩
  · cases hg
def intD : List D → Option D
  | [.int i] => some (.int i)
  | [.bool b] => some (.int (if b then 1 else 0))
  | _ => none
theorem cm_int {K : PySem.W.Frag} : CM K (fun xs H Q => (∃ i, xs = [.int i] ∧ Q (.int i) H) ∨ ∃ k, xs = [.bl k] ∧ Q (.int (if k then 1 else 0)) H) intD := by
  intro F H vs ds d e rs hg Q q
  unfold intD at hg
  split at hg
  · injection hg with hg; subst hg
    cases rs with
    | cons r rs => cases rs; rw [r.int]; exact .inl ⟨_, rfl, q _ F H (.refl e) (.int _)⟩
  · injection hg with hg; subst hg
    cases rs with
    | cons r rs => cases rs; rw [r.bl]; exact .inr ⟨_, rfl, q _ F H (.refl e) (.int _)⟩
  · cases hg
def max2D : List D → Option D
  | [.int i, .int j] => some (.int (if j > i then j else i))
  | _ => none
def min2D : List D → Option D
  | [.int i, .int j] => some (.int (if j < i then j else i))
  | _ => none
theorem cm_max2 {K : PySem.W.Frag} : CM K (fun xs H Q => ∃ i j, xs = [.int i, .int j] ∧ Q (.int (if j > i then j else i)) H) max2D := by
  intro F H vs ds d e rs hg Q q
  unfold max2D at hg
  split at hg
  · injection hg with hg; subst hg
    cases rs with
    | cons r rs => cases rs with
      | cons r' rs => cases rs; rw [r.int, r'.int]; exact ⟨_, _, rfl, q _ F H (.refl e) (.int _)⟩
  · cases hg
theorem cm_min2 {K : PySem.W.Frag} : CM K (fun xs H Q => ∃ i j, xs = [.int i, .int j] ∧ Q (.int (if j < i then j else i)) H) min2D := by
  intro F H vs ds d e rs hg Q q
  unfold min2D at hg
  split at hg
  · injection hg with hg; subst hg
    cases rs with
    | cons r rs => cases rs with
      | cons r' rs => cases rs; rw [r.int, r'.int]; exact ⟨_, _, rfl, q _ F H (.refl e) (.int _)⟩
  · cases hg
/-- tuple(x), list(x) of a list or a tuple -/
def tupD : List D → Option D
  | [.list xs] => some (.tuple xs)
  | [.tuple xs] => some (.tuple xs)
  | _ => none
theorem cm_tup {K : PySem.W.Frag} : CM K (fun xs H Q => ∃ p ys, xs = [.ref p] ∧ ((SqL K H p ys ∧ ∀ l, H l = none → Q (.ref l) (upd H l (.tup ys))) ∨ (SqT K H p ys ∧ Q (.ref p) H))) tupD := by
  intro F H vs ds d e rs hg Q q
  unfold tupD at hg
  split at hg
  · injection hg with hg; subst hg
    cases rs with
    | cons r rs =>
      cases rs
      obtain ⟨a, us, rfl, h1, h2⟩ := r.list e
      exact ⟨a, us, rfl, .inl ⟨SqL.of h1, fun l n => tup_new (F' := F) (H' := H) e h2 q n⟩⟩
  · injection hg with hg; subst hg
    cases rs with
    | cons r rs =>
      cases rs
      have rf := r.tupF
      obtain ⟨a, us, rfl, h1, h2⟩ := r.tuple e
      exact ⟨a, us, rfl, .inr ⟨h1, q _ F H (.refl e) rf⟩⟩
  · cases hg
def listD : List D → Option (List D)
  | [.list xs] => some xs
  | [.tuple xs] => some xs
  | _ => none
theorem cn_list {K : PySem.W.Frag} : CN K (fun xs H Q => ∃ p ys, xs = [.ref p] ∧ (SqL K H p ys ∨ SqT K H p ys) ∧ ∀ l, H l = none → Q (.ref l) (upd H l (.lst ys))) listD := by
  intro F H vs ds d e rs hg Q q
  unfold listD at hg
  split at hg
  · injection hg with hg; subst hg
    cases rs with
    | cons r rs =>
      cases rs
      obtain ⟨a, us, rfl, h1, h2⟩ := r.list e
      exact ⟨a, us, rfl, .inl (SqL.of h1), fun l n => lst_newM e h2 q n⟩
  · injection hg with hg; subst hg
    cases rs with
    | cons r rs =>
      cases rs
      obtain ⟨a, us, rfl, h1, h2⟩ := r.tuple e
      exact ⟨a, us, rfl, .inr h1, fun l n => lst_newM e h2 q n⟩
  · cases hg
end
end Mi

end
section
set_option maxHeartbeats 1000000
open PySem PySem.Spec PyProof.Rows
namespace Mi
open L2
/-! ### what is walked -/
/-- J gives ds, one behind another, as long as A stands -/
def GoesD (K : PySem.W.Frag) (J : It) (A : Hp) (ds : List D) : Prop := ∃ (G : Hp → Prop) (Y : Nat → Hp → V → Hp → Prop), Walk J ds.length G Y ∧ (∀ H, Same A H → G H) ∧
  ∀ i F H x H', i < ds.length → Same A H → Same F H → (∀ v d, Rp K A v d → Rp K F v d) → Y i H x H' → ∃ F' d, ds[i]? = some d ∧ Ext F H F' H' ∧ Rp K F' x d
section
variable {K : PySem.W.Frag} {R : ORel}
/-- over something that stands still: within F' -/
def tIF (K : PySem.W.Frag) (R : ORel) (m : Ev → Option (List D)) : TI := fun σ H Q => ∃ B F w ρ ds, WF K R B F w ρ σ H ∧ m ρ = some ds ∧ ∀ J F' H', Ext F H F' H' → GoesD K J F' ds → Q J H'
theorem goes_seq {A : Hp} {k : Bool} {a : Addr} {vs : List V} {ds : List D} (h : SqS k K A a vs) (r : RpAll K A vs ds) : (k = false → GoesD K (Itl K a) A ds) ∧ (k = true → GoesD K (Itt K a) A ds) := by
  have hl := r.length
  constructor
  · intro e; subst e
    refine ⟨fun H => SqL K H a vs, YAt vs, by rw [← hl]; exact walk_list, fun H e => same_l e h, fun i F H x H' hi ea ef up y => ?_⟩
    obtain ⟨rfl, y⟩ := y
    obtain ⟨d, h1, h2⟩ := r.get' y
    exact ⟨F, d, h1, .refl ef, up _ _ h2⟩
  · intro e; subst e
    refine ⟨fun H => SqT K H a vs, YAt vs, by rw [← hl]; exact walk_tup, fun H e => same_t e h, fun i F H x H' hi ea ef up y => ?_⟩
    obtain ⟨rfl, y⟩ := y
    obtain ⟨d, h1, h2⟩ := r.get' y
    exact ⟨F, d, h1, .refl ef, up _ _ h2⟩
theorem goes_range {A : Hp} {lo : Int} {n : Nat} : GoesD K (Itr lo n) A ((List.range n).map fun i => PyData.int (lo + (i : Nat))) := by
  refine ⟨fun _ => True, YFn fun i => .int (lo + i), by rw [List.length_map, List.length_range]; exact walk_range, fun _ _ => trivial, fun i F H x H' hi ea ef up y => ?_⟩
  obtain ⟨rfl, rfl⟩ := y
  rw [List.length_map, List.length_range] at hi
  exact ⟨F, _, by rw [List.getElem?_map, List.getElem?_range hi]; rfl, .refl ef, .int _⟩
theorem goes_rangeC {A : Hp} {lo c : Int} {n : Nat} : GoesD K (Itc lo c n) A ((List.range n).map fun i => PyData.int (lo + (i : Nat) * c)) := by
  refine ⟨fun _ => True, YFn fun i => .int (lo + (i : Nat) * c), by rw [List.length_map, List.length_range]; exact walk_rangeC, fun _ _ => trivial, fun i F H x H' hi ea ef up y => ?_⟩
  obtain ⟨rfl, rfl⟩ := y
  rw [List.length_map, List.length_range] at hi
  exact ⟨F, _, by rw [List.getElem?_map, List.getElem?_range hi]; rfl, .refl ef, .int _⟩
theorem pair_new {F H : Hp} {T : Addr} {x y : V} {a b : D} (e : Same F H) (n : H T = none) (h1 : Rp K F x a) (h2 : Rp K F y b) : Ext F H (upd F T (.tup [x, y])) (upd H T (.tup [x, y])) ∧ Rp K (upd F T (.tup [x, y])) (.ref T) (.tuple [a, b]) := by
  have E := Ext.new (o := .tup [x, y]) e n
  exact ⟨E, .tup (SqT.of upd_same) (.cons (h1.up E.ff) (.cons (h2.up E.ff) .nil))⟩
def enumL (ds : List D) : List D := (List.range ds.length).zipWith (fun i d => PyData.tuple [.int (i : Nat), d]) ds
theorem enumL_length (ds : List D) : (enumL ds).length = ds.length := by unfold enumL; rw [List.length_zipWith, List.length_range]; exact Nat.min_self _
theorem enumL_get {ds : List D} {i : Nat} {d : D} (h : ds[i]? = some d) : (enumL ds)[i]? = some (.tuple [.int (i : Nat), d]) := by
  unfold enumL
  have hi : i < ds.length := (List.getElem?_eq_some_iff.mp h).1
  rw [List.getElem?_zipWith, List.getElem?_range hi, h]
theorem goes_enum {A : Hp} {k : Bool} {a : Addr} {vs : List V} {ds : List D} (h : SqS k K A a vs) (r : RpAll K A vs ds) : (k = false → GoesD K (Ite K a) A (enumL ds)) ∧ (k = true → GoesD K (IteT K a) A (enumL ds)) := by
  have hl := r.length
  have step : ∀ (i : Nat) (F H : Hp) (x : V) (H' : Hp), Same A H → Same F H → (∀ v d, Rp K A v d → Rp K F v d) → YPair (fun i => some (.int (i : Nat))) (fun i => vs[i]?) i H x H' → ∃ F' d, (enumL ds)[i]? = some d ∧ Ext F H F' H' ∧ Rp K F' x d := by
    intro i F H x H' ea ef up y
    obtain ⟨T, x1, x2, rfl, n, rfl, e1, e2⟩ := y
    cases e1
    obtain ⟨d, h1, h2⟩ := r.get' e2
    obtain ⟨E, q⟩ := pair_new (K := K) (x := .int (i : Nat)) (y := x2) (a := .int (i : Nat)) (b := d) ef n (.int _) (up _ _ h2)
    exact ⟨_, _, enumL_get h1, E, q⟩
  constructor
  · intro e; subst e
    exact ⟨fun H => SqL K H a vs, _, by rw [enumL_length, ← hl]; exact walk_enum, fun H e => same_l e h, fun i F H x H' hi ea ef up y => step i F H x H' ea ef up y⟩
  · intro e; subst e
    exact ⟨fun H => SqT K H a vs, _, by rw [enumL_length, ← hl]; exact walk_enumT, fun H e => same_t e h, fun i F H x H' hi ea ef up y => step i F H x H' ea ef up y⟩
theorem sqS_up {A H : Hp} {k : Bool} {a : Addr} {vs : List V} (e : Same A H) (h : SqS k K A a vs) : SqS k K H a vs := by
  cases k with
  | true => exact same_t e h
  | false => exact same_l e h
def zipL (xs ys : List D) : List D := xs.zipWith (fun a b => PyData.tuple [a, b]) ys
theorem goes_zip {A : Hp} {k1 k2 : Bool} {a b : Addr} {us vs : List V} {ds es : List D} (h1 : SqS k1 K A a us) (h2 : SqS k2 K A b vs) (r1 : RpAll K A us ds) (r2 : RpAll K A vs es) : GoesD K (ItzS k1 k2 K a b) A (zipL ds es) := by
  refine ⟨fun H => SqS k1 K H a us ∧ SqS k2 K H b vs, _, walk_zipS (by unfold zipL; rw [List.length_zipWith, r1.length, r2.length]), fun H e => ⟨sqS_up e h1, sqS_up e h2⟩, fun i F H x H' hi ea ef up y => ?_⟩
  obtain ⟨T, x1, x2, rfl, n, rfl, e1, e2⟩ := y
  obtain ⟨d1, g1, q1⟩ := r1.get' e1
  obtain ⟨d2, g2, q2⟩ := r2.get' e2
  obtain ⟨E, q⟩ := pair_new (K := K) ef n (up _ _ q1) (up _ _ q2)
  refine ⟨_, _, ?_, E, q⟩
  unfold zipL
  rw [List.getElem?_zipWith, g1, g2]
end
section
variable {X : Cx} {R : ORel} {tg e e2 : Expr} {es : List Expr} {m ma mb : Ev → Option D} {pos p : Pos}
theorem RpAll_ff {K : PySem.W.Frag} {F F' : Hp} (e : Same F F') : ∀ v d, Rp K F v d → Rp K F' v d := fun _ _ h => h.up e
/-- items of a list or a tuple -/
def itemsD : D → Option (List D)
  | .list xs => some xs
  | .tuple xs => some xs
  | _ => none
def mIt (m : Ev → Option D) : Ev → Option (List D) := fun ρ => (m ρ).bind itemsD
theorem sq_of {K : PySem.W.Frag} {F : Hp} {v : V} {d : D} {ds : List D} (r : Rp K F v d) (h : itemsD d = some ds) : ∃ k a vs, v = .ref a ∧ SqS k K F a vs ∧ RpAll K F vs ds := by
  cases d with
  | list xs => cases h; cases r with | lst h1 h2 => exact ⟨false, _, _, rfl, SqL.of h1, h2⟩
  | tuple xs => cases h; cases r with | tup h1 h2 => exact ⟨true, _, _, rfl, h1, h2⟩
  | _ => cases h
/-- a list or a tuple that is walked -/
theorem pi_or {wi wi' : TI} (h : PI X tg e wi) (h' : PI X tg e wi') : PI X tg e (fun σ H Q => wi σ H Q ∨ wi' σ H Q) := ⟨fun pins s σ H Q I q => q.elim (h.run pins s σ H Q I) (h'.run pins s σ H Q I)⟩
theorem _root_.L2.PI.imp {t t' : TI} (h : PI X tg e t) (k : ∀ σ H Q, t' σ H Q → t σ H Q) : PI X tg e t' := ⟨fun pins s σ H Q I q => h.run pins s σ H Q I (k σ H Q q)⟩
def iSeqA (K : PySem.W.Frag) (tl : TE) : TI := fun σ H Q => tl σ H fun x H1 => ∃ a, x = .ref a ∧ ((∃ xs, SqL K H1 a xs) ∧ Q (Itl K a) H1 ∨ (∃ xs, SqT K H1 a xs) ∧ Q (Itt K a) H1)
theorem pi_seqA {l : Expr} {tl : TE} (hl : PE X l tl) : PI X tg l (iSeqA X.K tl) := by
  refine ⟨fun pins s σ H R I h => ?_⟩
  refine thn (hl.run pins s σ H _ I h) fun v s1 ⟨x, H1, I1, r1, a, e, q⟩ => ?_
  subst e
  cases r1
  have hc : PE X l (fun σ' H' Q' => σ' = σ ∧ H' = H ∧ ∀ v H2, v = V.ref a → H2 = H1 → Q' v H2) → True := fun _ => trivial
  rcases q with ⟨hq, q⟩ | ⟨hq, q⟩
  · obtain ⟨xs, hx⟩ := hq
    obtain ⟨its, rv, p', hz⟩ := I1.list hx
    refine wpAny_pyIter_list p'.isList ?_
    have hk : ∀ b o, s1.heap.get? b = some o → (s1.heap.push { cls := .type "list_iterator", data := .fields #[.ref a, .int 0 0] }).get? b = some o := fun b o e => Heap.get?_push_of_some _ e
    refine ⟨s1.heap.objs.size, [s1.heap.objs.size], _, _, H1, rfl, I1.kept (t' := s1.toks) hk, turn_list a s1.heap.objs.size, ⟨_, Heap.get?_push_size _ rfl, rfl, rfl⟩, fun b hb => ?_, q⟩
    have e : b = s1.heap.objs.size := by simpa using hb
    subst e
    exact I1.fpOk (Nat.le_refl _) (I1.hok.fresh (Nat.le_refl _))
  · obtain ⟨xs, hx⟩ := hq
    obtain ⟨its, rv, p', hz⟩ := I1.tuple hx
    refine wpAny_pyIter_tuple (show s1.heap.IsTuple a its.toArray from p') ?_
    have hk : ∀ b o, s1.heap.get? b = some o → (s1.heap.push { cls := .type "tuple_iterator", data := .fields #[.ref a, .int 0 0] }).get? b = some o := fun b o e => Heap.get?_push_of_some _ e
    refine ⟨s1.heap.objs.size, [s1.heap.objs.size], _, _, H1, rfl, I1.kept (t' := s1.toks) hk, turn_tuple a s1.heap.objs.size, ⟨_, Heap.get?_push_size _ rfl, rfl, rfl⟩, fun b hb => ?_, q⟩
    have e : b = s1.heap.objs.size := by simpa using hb
    subst e
    exact I1.fpOk (Nat.le_refl _) (I1.hok.fresh (Nat.le_refl _))
theorem pi_seq (h : PE X e (tF X.K R m)) : PI X tg e (tIF X.K R (mIt m)) := (pi_seqA h).imp fun σ H Q ⟨B, F, w, ρ, ds, W, h, q⟩ => by
  obtain ⟨d, h1, h⟩ := Option.bind_eq_some_iff.mp h
  refine ⟨B, F, w, ρ, d, W, h1, fun v F1 H1 E1 r1 => ?_⟩
  obtain ⟨k, a, vs, rfl, h2, h3⟩ := sq_of r1 h
  have g := goes_seq h2 h3
  cases k with
  | false => exact ⟨a, rfl, .inl ⟨⟨vs, same_l E1.fh h2⟩, q _ F1 H1 E1 (g.1 rfl)⟩⟩
  | true => exact ⟨a, rfl, .inr ⟨⟨vs, same_t E1.fh h2⟩, q _ F1 H1 E1 (g.2 rfl)⟩⟩
def rangeD : List D → Option (List D)
  | [.int j] => if (decide (-(2 ^ 62) ≤ j) && decide (j < 2 ^ 62)) = true then some ((List.range j.toNat).map fun i => PyData.int (0 + (i : Nat))) else none
  | [.int i, .int j] => if (decide (-(2 ^ 62) ≤ i) && (decide (i < 2 ^ 62) && (decide (-(2 ^ 62) ≤ j) && decide (j < 2 ^ 62)))) = true then some ((List.range (j - i).toNat).map fun k => PyData.int (i + (k : Nat))) else none
  | [.int i, .int j, .int c] => if (decide (c ≠ 0) && (decide (c.natAbs < 1073741824) && Builtin.Range.small i j c)) = true then some ((List.range (Builtin.Range.rangeSize i j c).toNat).map fun k => PyData.int (i + (k : Nat) * c)) else none
  | _ => none
theorem RpAll.one {K : PySem.W.Frag} {F : Hp} {vs : List V} {d : D} (r : RpAll K F vs [d]) : ∃ v, vs = [v] ∧ Rp K F v d := by
  cases r with | cons a t => cases t; exact ⟨_, rfl, a⟩
theorem Rp.intV {K : PySem.W.Frag} {F : Hp} {v : V} {i : Int} (r : Rp K F v (.int i)) : v = .int i := by cases r; rfl
theorem pi_rng1 {n : Ev → Option (List D)} (hg : Gl X "range") (hm : X.mg "range" = none) (ha : PA X [e] (tAF X.K R n)) (hs : starEach [e] X.env = [(false, eval e X.env)] := by rfl) : PI X tg (.Call (.Name "range" p) [e] [] pos) (tIF X.K R (mC n fun ds => if ds.length = 1 then rangeD ds else none)) :=
  (pi_range1 hg hm ha hs).imp fun σ H Q ⟨B, F, w, ρ, ds, W, h, q⟩ => by
    obtain ⟨es, h1, h⟩ := Option.bind_eq_some_iff.mp h
    split at h
    · refine ⟨B, F, w, ρ, es, W, h1, fun vs F1 H1 E1 r1 => ?_⟩
      unfold rangeD at h
      split at h
      · split at h
        · rename_i hb
          simp only [Bool.and_eq_true, decide_eq_true_eq] at hb
          injection h with h; subst h
          obtain ⟨v, rfl, r⟩ := RpAll.one r1
          cases r
          exact ⟨_, rfl, hb.1, hb.2, q _ F1 H1 E1 goes_range⟩
        · cases h
      · simp at *
      · simp at *
      · cases h
    · cases h
theorem pi_rng2 {n : Ev → Option (List D)} (hg : Gl X "range") (hm : X.mg "range" = none) (ha : PA X [e, e2] (tAF X.K R n)) (hs : starEach [e, e2] X.env = [(false, eval e X.env), (false, eval e2 X.env)] := by rfl) (hs2 : starEach [e2] X.env = [(false, eval e2 X.env)] := by rfl) : PI X tg (.Call (.Name "range" p) [e, e2] [] pos) (tIF X.K R (mC n fun ds => if ds.length = 2 then rangeD ds else none)) :=
  (pi_range2 hg hm ha hs hs2).imp fun σ H Q ⟨B, F, w, ρ, ds, W, h, q⟩ => by
    obtain ⟨es, h1, h⟩ := Option.bind_eq_some_iff.mp h
    split at h
    · refine ⟨B, F, w, ρ, es, W, h1, fun vs F1 H1 E1 r1 => ?_⟩
      unfold rangeD at h
      split at h
      · simp at *
      · split at h
        · rename_i hb
          simp only [Bool.and_eq_true, decide_eq_true_eq] at hb
          injection h with h; subst h
          cases r1 with | cons a t => cases t with | cons b t => cases t; cases a; cases b; exact ⟨_, _, rfl, hb, q _ F1 H1 E1 goes_range⟩
        · cases h
      · simp at *
      · cases h
    · cases h
theorem rangeSize_nn {i j c : Int} (h0 : c ≠ 0) : 0 ≤ Builtin.Range.rangeSize i j c := by
  unfold Builtin.Range.rangeSize
  split
  · split
    · rename_i h1 h2
      exact Int.le_trans (by decide) (Int.add_le_add_right (Int.ediv_nonneg (by omega) (by omega)) 1 |> fun z => z)
    · exact Int.le_refl _
  · split
    · exact Int.le_trans (by decide) (Int.add_le_add_right (Int.ediv_nonneg (by omega) (by omega)) 1 |> fun z => z)
    · exact Int.le_refl _
end
end Mi

end
section
set_option maxHeartbeats 1000000
open PySem PySem.Spec PyProof.Rows
namespace Mi
open L2
section
variable {X : Cx} {R : ORel} {tg e e2 e3 : Expr} {es : List Expr} {m ma mb : Ev → Option D} {pos p tpos : Pos} {elts : List Expr} {kk : Nat}
theorem pi_rng3 {n : Ev → Option (List D)} (hg : Gl X "range") (hm : X.mg "range" = none) (ha : PA X [e, e2, e3] (tAF X.K R n))
    (hs : starEach [e, e2, e3] X.env = (false, eval e X.env) :: starEach [e2, e3] X.env := by rfl) (hpl : (backTo pos (starEach [e2, e3] X.env)).any (·.1) = false := by rfl) : PI X tg (.Call (.Name "range" p) [e, e2, e3] [] pos) (tIF X.K R (mC n fun ds => if ds.length = 3 then rangeD ds else none)) :=
  (pi_range3 hg hm ha hs hpl).imp fun σ H Q ⟨B, F, w, ρ, ds, W, h, q⟩ => by
    obtain ⟨es, h1, h⟩ := Option.bind_eq_some_iff.mp h
    split at h
    · refine ⟨B, F, w, ρ, es, W, h1, fun vs F1 H1 E1 r1 => ?_⟩
      unfold rangeD at h
      split at h
      · simp at *
      · simp at *
      · split at h
        · rename_i hb
          simp only [Bool.and_eq_true, decide_eq_true_eq] at hb
          injection h with h; subst h
          cases r1 with | cons a t => cases t with | cons b t => cases t with | cons c t =>
            cases t; cases a; cases b; cases c
            exact ⟨_, _, _, _, rfl, ⟨hb.1, hb.2.1, hb.2.2, (Int.toNat_of_nonneg (rangeSize_nn hb.1)).symm⟩, q _ F1 H1 E1 goes_rangeC⟩
        · cases h
      · cases h
    · cases h
theorem pi_enumM (hg : Gl X "enumerate") (hm : X.mg "enumerate" = none) (ha : PE X e (tF X.K R m)) (hs : starEach [e] X.env = [(false, eval e X.env)] := by rfl) (hs' : starEach (e :: []) X.env = (false, eval e X.env) :: starEach [] X.env := by rfl) :
    PI X (.Tuple elts kk tpos) (.Call (.Name "enumerate" p) [e] [] pos) (tIF X.K R fun ρ => (mIt m ρ).map enumL) := (pi_enumA hg hm (pa_cons ha pa_nil hs') hs).imp fun σ H Q ⟨B, F, w, ρ, ds, W, h, q⟩ => by
  have h : (mIt m ρ).map enumL = some ds := h
  obtain ⟨es, hh, h'⟩ := Option.map_eq_some_iff.mp h
  subst h'
  obtain ⟨d, h1, hd⟩ := Option.bind_eq_some_iff.mp (show (m ρ).bind itemsD = some es from hh)
  refine ⟨B, F, w, ρ, d, W, h1, fun v F1 H1 E1 r1 => ?_⟩
  obtain ⟨k, a, vs, rfl, h2, h3⟩ := sq_of r1 hd
  have g := goes_enum h2 h3
  cases k with
  | false => exact ⟨a, vs, rfl, .inl ⟨same_l E1.fh h2, q _ F1 H1 E1 (g.1 rfl)⟩⟩
  | true => exact ⟨a, vs, rfl, .inr ⟨same_t E1.fh h2, q _ F1 H1 E1 (g.2 rfl)⟩⟩
def mZip (ma mb : Ev → Option D) : Ev → Option (List D) := fun ρ => (ma ρ).bind fun x => (mb ρ).bind fun y => (itemsD x).bind fun xs => (itemsD y).map fun ys => zipL xs ys
theorem pi_zipM (hg : Gl X "zip") (hm : X.mg "zip" = none) (ha : PE X e (tF X.K R ma)) (hb : PE X e2 (tF X.K R mb)) (hs : starEach [e, e2] X.env = (false, eval e X.env) :: starEach [e2] X.env := by rfl) (hs' : starEach [e2] X.env = (false, eval e2 X.env) :: starEach [] X.env := by rfl) (hpl : (backTo pos (starEach [e2] X.env)).any (·.1) = false := by rfl) :
    PI X (.Tuple elts kk tpos) (.Call (.Name "zip" p) [e, e2] [] pos) (tIF X.K R (mZip ma mb)) := (pi_zipS hg hm (pa_cons ha (pa_cons hb pa_nil hs') hs) hs hpl).imp fun σ H Q ⟨B, F, w, ρ, ds, W, h, q⟩ => by
  obtain ⟨x, h1, h⟩ := Option.bind_eq_some_iff.mp h
  obtain ⟨y, h2, h⟩ := Option.bind_eq_some_iff.mp h
  obtain ⟨xs, h3, h⟩ := Option.bind_eq_some_iff.mp h
  obtain ⟨ys, h4, h⟩ := Option.map_eq_some_iff.mp h
  subst h
  refine ⟨B, F, w, ρ, x, W, h1, fun v F1 H1 E1 r1 => ?_⟩
  refine ⟨B, F1, w, ρ, y, W.ext E1, h2, fun u F2 H2 E2 r2 => ?_⟩
  obtain ⟨k1, a, vs, rfl, s1, g1⟩ := sq_of r1 h3
  obtain ⟨k2, b, us, rfl, s2, g2⟩ := sq_of r2 h4
  exact ⟨k1, k2, a, b, vs, us, rfl, sqS_up (E2.ff.trans E2.fh) s1, sqS_up E2.fh s2, q _ F2 H2 (E1.trans E2) (goes_zip (sqS_up E2.ff s1) s2 (g1.up E2.ff) g2)⟩

/-! ### targets -/
def tG (K : PySem.W.Frag) (R : ORel) (is : List Nat) (m : D → Ev → Option Ev) : TG := fun v σ H Q => ∃ B F w ρ d ρ', WF K R B F w ρ σ H ∧ Rp K F v d ∧ m d ρ = some ρ' ∧
  ∀ σ', WF K R B F w ρ' σ' H → (∀ vs, (∀ i ∈ is, i ∈ vs) → wipe σ' vs = wipe σ vs) → Q σ' H
def tGs (K : PySem.W.Frag) (R : ORel) (is : List Nat) (m : List D → Ev → Option Ev) : TGs := fun us σ H Q => ∃ B F w ρ ds ρ', WF K R B F w ρ σ H ∧ RpAll K F us ds ∧ m ds ρ = some ρ' ∧
  ∀ σ', WF K R B F w ρ' σ' H → (∀ vs, (∀ i ∈ is, i ∈ vs) → wipe σ' vs = wipe σ vs) → Q σ' H
theorem _root_.L2.PG.imp {t t' : TG} (h : PG X e t) (k : ∀ v σ H Q, t' v σ H Q → t v σ H Q) : PG X e t' := ⟨fun pins s σ H x u Q I r q => h.run pins s σ H x u Q I r (k _ _ _ _ q)⟩
theorem _root_.L2.PGs.imp {t t' : TGs} (h : PGs X es t) (k : ∀ v σ H Q, t' v σ H Q → t v σ H Q) : PGs X es t' := ⟨fun pins s σ H x u Q I r q => h.run pins s σ H x u Q I r (k _ _ _ _ q)⟩
theorem wipe_set {σ : St} {i : Nat} {x : Option V} : ∀ {vs : List Nat}, i ∈ vs → wipe (σ.set i x) vs = wipe σ vs
  | v :: vs, h => by
    unfold wipe
    by_cases e : i ∈ vs
    · rw [wipe_set e]
    · have ev : i = v := (List.mem_cons.mp h).resolve_right e
      subst ev
      have key : ∀ (us : List Nat) (τ : St), i ∉ us → wipe (τ.set i x) us = (wipe τ us).set i x := by
        intro us
        induction us with
        | nil => intro τ _; rfl
        | cons u us ih =>
          intro τ hn
          unfold wipe
          rw [ih τ (fun z => hn (List.mem_cons_of_mem _ z)), List.set_comm _ _ (fun z => hn (by rw [z]; exact List.mem_cons_self))]
      rw [key vs σ e, List.set_set]
theorem pg_nameM {i : Nat} {x : Str} (hN : X.N.Nodup) (hi : X.N[i]? = some x) (hx : Loc X.env.scope x) (hf : X.fn x = true ∨ X.env.scope.names.lookup x = some .local := by first | exact .inl rfl | exact .inr rfl | assumption) : PG X (.Name x pos) (tG X.K R [i] fun d ρ => some (ρ.set i (.fr d))) :=
  (pg_name hN hi hx hf).imp fun v σ H Q ⟨B, F, w, ρ, d, ρ', W, r, h, q⟩ => by
    injection h with h; subst h
    exact q _ (W.setF (i := i) r) fun vs hv => wipe_set (hv i List.mem_cons_self)
theorem pgs_nilM : PGs X [] (tGs X.K R [] fun ds ρ => if ds = [] then some ρ else none) := pgs_nil.imp fun v σ H Q ⟨B, F, w, ρ, d, ρ', W, r, h, q⟩ => by
  have h : (if d = [] then some ρ else none) = some ρ' := h
  split at h
  · rename_i e
    injection h with h; subst h; subst e
    cases r
    exact ⟨rfl, q _ W fun _ _ => rfl⟩
  · cases h
def gsCons (m : D → Ev → Option Ev) (n : List D → Ev → Option Ev) : List D → Ev → Option Ev
  | d :: ds, ρ => (m d ρ).bind (n ds)
  | [], _ => none
theorem pgs_consM {m : D → Ev → Option Ev} {n : List D → Ev → Option Ev} {is js : List Nat} (h1 : PG X e (tG X.K R is m)) (h2 : PGs X es (tGs X.K R js n))
    (hs : (assignEach (e :: es) X.env).map (·.2) = assign e X.env :: (assignEach es X.env).map (·.2) := by rfl) : PGs X (e :: es) (tGs X.K R (is ++ js) (gsCons m n)) := (pgs_cons h1 h2 hs).imp fun us σ H Q ⟨B, F, w, ρ, ds, ρ', W, r, h, q⟩ => by
  cases r with
  | nil => cases h
  | cons a t =>
    obtain ⟨ρ1, h1, h⟩ := Option.bind_eq_some_iff.mp h
    refine ⟨_, _, rfl, B, F, w, ρ, _, ρ1, W, a, h1, fun σ1 W1 e1 => ?_⟩
    refine ⟨B, F, w, ρ1, _, ρ', W1, t, h, fun σ2 W2 e2 => q σ2 W2 fun vs hv => ?_⟩
    rw [e2 vs fun i hi => hv i (List.mem_append_right _ hi), e1 vs fun i hi => hv i (List.mem_append_left _ hi)]
def gT (n : List D → Ev → Option Ev) (k : Nat) : D → Ev → Option Ev
  | .tuple ds, ρ => if ds.length = k then n ds ρ else none
  | _, _ => none
theorem pg_tupM {n : List D → Ev → Option Ev} {is : List Nat} {k x1 : Nat} (hc : X.calm = true) (h : PGs X es (tGs X.K R is n)) (hn : (assignEach es X.env).length = k := by rfl) (hst : (assignEach es X.env).findIdx? (·.1) = none := by rfl) : PG X (.Tuple es x1 pos) (tG X.K R is (gT n k)) :=
  (pg_tup hc h hn hst).imp fun v σ H Q ⟨B, F, w, ρ, d, ρ', W, r, h, q⟩ => by
    cases d <;> simp only [gT] at h <;> try (cases h; done)
    split at h
    · rename_i hl
      cases r with
      | tup h1 h2 => exact ⟨_, _, rfl, same_t W.fh h1, by rw [h2.length]; exact hl, B, F, w, ρ, _, ρ', W, h2, h, q⟩
    · cases h
/-! ### comprehensions -/
def wipeE (ρ : Ev) : List Nat → Ev
  | [] => ρ
  | v :: vs => (wipeE ρ vs).set v .no
theorem wipeE_length (ρ : Ev) : ∀ vs : List Nat, (wipeE ρ vs).length = ρ.length
  | [] => rfl
  | v :: vs => by unfold wipeE; rw [List.length_set, wipeE_length ρ vs]
theorem wipeE_get {ρ : Ev} {i : Nat} {s : Sl} : ∀ {vs : List Nat}, (wipeE ρ vs)[i]? = some s → s = .no ∨ (i ∉ vs ∧ ρ[i]? = some s)
  | [], h => .inr ⟨by simp, h⟩
  | v :: vs, h => by
    unfold wipeE at h
    rcases getElem?_set_cases h with ⟨_, e, _⟩ | ⟨hne, h⟩
    · exact .inl e
    · rcases wipeE_get h with e | ⟨h1, h2⟩
      · exact .inl e
      · exact .inr ⟨by simp only [List.mem_cons, not_or]; exact ⟨hne, h1⟩, h2⟩
theorem wipe_keep {σ : St} {i : Nat} {x : Option V} : ∀ {vs : List Nat}, i ∉ vs → σ[i]? = some x → (wipe σ vs)[i]? = some x
  | [], _, h => h
  | v :: vs, hn, h => by
    unfold wipe
    rw [List.getElem?_set_ne (fun e => hn (by rw [e]; exact List.mem_cons_self))]
    exact wipe_keep (fun z => hn (List.mem_cons_of_mem _ z)) h
theorem WF.wipe {K : PySem.W.Frag} {B : Bs} {F H : Hp} {w : Addr → Option Nat} {ρ : Ev} {σ : St} (W : WF K R B F w ρ σ H) (vs : List Nat) : WF K R B F w (wipeE ρ vs) (wipe σ vs) H :=
  W.drop (wipe_length σ vs) (fun i s v h hs e => by
    rcases wipeE_get h with z | ⟨z, _⟩
    · exact absurd z hs
    · exact wipe_keep z e) (wipeE_length ρ vs) fun i s h => (wipeE_get h).imp id And.right
def lcGo (vs : List Nat) (mg : D → Ev → Option Ev) (mt : Ev → Option Bool) (me : Ev → Option D) (ρ : Ev) : List D → Option (List D)
  | [] => some []
  | d :: ds => (mg d (wipeE ρ vs)).bind fun ρ1 => (mt ρ1).bind fun b => if b = true then (me ρ1).bind fun x => (lcGo vs mg mt me ρ ds).map (x :: ·) else lcGo vs mg mt me ρ ds
def mLc (vs : List Nat) (mi : Ev → Option (List D)) (mg : D → Ev → Option Ev) (mt : Ev → Option Bool) (me : Ev → Option D) : Ev → Option (List D) := fun ρ => (mi ρ).bind fun ds => if ds.length ≤ LL then lcGo vs mg mt me ρ ds else none
theorem pts_nilM : PTs X [] (tB X.K R fun _ => some true) := ⟨fun pins s σ H Q I ⟨B, F, w, ρ, b, W, h, q⟩ => by
  cases h
  exact pts_nil.run pins s σ H Q I (q F H (.refl W.fh))⟩
theorem _root_.L2.PTs.imp {es : List Expr} {t t' : TT} (h : PTs X es t) (k : ∀ σ H Q, t' σ H Q → t σ H Q) : PTs X es t' := ⟨fun pins s σ H Q I q => h.run pins s σ H Q I (k σ H Q q)⟩
theorem upd_same_ext {F H : Hp} {a : Addr} {o u : HO} (e : Same F H) (hf : F a = none) : Same F (upd H a o) := fun b x q => by rw [upd_ne (ne_of_none q hf)]; exact e b x q
theorem tr_lc {K : PySem.W.Frag} {vs is : List Nat} {mi : Ev → Option (List D)} {mg : D → Ev → Option Ev} {mt : Ev → Option Bool} {me : Ev → Option D} (his : ∀ i ∈ is, i ∈ vs) :
    ∀ σ H Q, tNL K R (mLc vs mi mg mt me) σ H Q → tLc (tIF K R mi) (tG K R is mg) (tB K R mt) (tF K R me) vs σ H Q := by
  intro σ H Q ⟨B, F, w, ρ, res, W, h, q⟩
  obtain ⟨ds, h1, h⟩ := Option.bind_eq_some_iff.mp h
  split at h
  · rename_i hl
    refine ⟨B, F, w, ρ, ds, W, h1, fun J F1 H1 E1 g => ?_⟩
    intro Da nD
    obtain ⟨G, Y, wk, hG, hY⟩ := g
    have W1 := W.ext E1
    have fD : F1 Da = none := E1.fh.free nD
    refine lc_it wk (fun i H' => ∃ F' av ad rest, Ext F1 H1 F' H' ∧ F' Da = none ∧ H' Da = some (.lst av) ∧ RpAll K F' av ad ∧ av.length ≤ i ∧ lcGo vs mg mt me ρ (ds.drop i) = some rest ∧ ad ++ rest = res) ?_ ?_ ?_ ?_
    · exact ⟨F1, [], [], res, Ext.newM E1.fh nD, fD, upd_same, .nil, Nat.le_refl _, h, rfl⟩
    · rintro i H' _ ⟨F', av, ad, rest, E, _⟩
      exact hG _ (E.ff.trans E.fh)
    · rintro i x H' H'' hi ⟨F', av, ad, rest, E, fd, hd, ra, hlen, hgo, hres⟩ y
      obtain ⟨F2, d, hd1, E2, rx⟩ := hY i F' H' x H'' hi (E.ff.trans E.fh) E.fh (fun _ _ z => z.up E.ff) y
      have hdrop : ds.drop i = d :: ds.drop (i + 1) := by
        have hi' : i < ds.length := (List.getElem?_eq_some_iff.mp hd1).1
        rw [List.drop_eq_getElem_cons hi']
        have := (List.getElem?_eq_some_iff.mp hd1).2
        rw [this]
      rw [hdrop] at hgo
      obtain ⟨ρ1, g1, hgo⟩ := Option.bind_eq_some_iff.mp hgo
      obtain ⟨b, g2, hgo⟩ := Option.bind_eq_some_iff.mp hgo
      have WF2 : WF K R B F2 w (wipeE ρ vs) (wipe σ vs) H'' := ((W1.ext E).ext E2).wipe vs
      have fd2 : F2 Da = none := by
        cases z : F2 Da with
        | none => rfl
        | some o =>
          rcases E2.nw Da (by rw [z]; exact fun q => nomatch q) with q | q
          · exact absurd fd q
          · rw [hd] at q; cases q
      refine ⟨B, F2, w, wipeE ρ vs, d, ρ1, WF2, rx, g1, fun σ2 W2 ew => ⟨?_, ?_⟩⟩
      · rw [ew vs his]
        have idem : ∀ (us : List Nat) (τ : St), (∀ i ∈ us, i ∈ vs) → wipe (wipe τ us) vs = wipe τ vs := by
          intro us
          induction us with
          | nil => intro τ _; rfl
          | cons u us ih =>
            intro τ hu
            show wipe ((wipe τ us).set u none) vs = wipe τ vs
            rw [wipe_set (hu u List.mem_cons_self), ih τ fun i hi => hu i (List.mem_cons_of_mem _ hi)]
        exact idem vs σ fun _ z => z
      · refine ⟨B, F2, w, ρ1, b, W2, g2, fun F3 H3 E3 => ?_⟩
        have fd3 : F3 Da = none := by
          cases z : F3 Da with
          | none => rfl
          | some o =>
            rcases E3.nw Da (by rw [z]; exact fun q => nomatch q) with q | q
            · exact absurd fd2 q
            · rw [E2.hh Da _ hd] at q; cases q
        split at hgo
        · rename_i hb; subst hb
          obtain ⟨x1, g3, hgo⟩ := Option.bind_eq_some_iff.mp hgo
          obtain ⟨rest', g4, hgo⟩ := Option.map_eq_some_iff.mp hgo
          subst hgo
          refine iteT ⟨B, F3, w, ρ1, x1, W2.ext E3, g3, fun v F4 H4 E4 r4 => ?_⟩
          have Eall := ((E.trans E2).trans E3).trans E4
          have fd4 : F4 Da = none := by
            cases z : F4 Da with
            | none => rfl
            | some o =>
              rcases E4.nw Da (by rw [z]; exact fun q => nomatch q) with q | q
              · exact absurd fd3 q
              · rw [E3.hh Da _ (E2.hh Da _ hd)] at q; cases q
          refine ⟨av, E4.hh _ _ (E3.hh _ _ (E2.hh _ _ hd)), ?_, F4, av ++ [v], ad ++ [x1], rest', ?_, fd4, upd_same, ?_, ?_, g4, ?_⟩
          · rw [ll_line]
            have : i < ds.length := hi
            omega
          · exact ⟨Eall.ff, upd_same_ext (u := .lst []) Eall.fh fd4, fun a o z => by rw [upd_ne (ne_of_none z nD)]; exact Eall.hh a o z, Eall.nw⟩
          · exact (((ra.up E2.ff).up E3.ff).up E4.ff).append (.cons r4 .nil)
          · rw [List.length_append, List.length_singleton]; omega
          · rw [← hres]; simp
        · rename_i hb
          have hb : b = false := by simpa using hb
          subst hb
          exact iteF ⟨F3, av, ad, rest, (E.trans E2).trans E3, fd3, E3.hh _ _ (E2.hh _ _ hd), (ra.up E2.ff).up E3.ff, by omega, hgo, hres⟩
    · rintro H' ⟨F', av, ad, rest, E, fd, hd, ra, hlen, hgo, hres⟩
      rw [List.drop_length] at hgo
      cases hgo
      rw [List.append_nil] at hres
      subst hres
      exact q Da av F' H' (E1.trans E) fd (E1.hh.free nD) hd ra
  · cases h
theorem pn_lc {elt iter : Expr} {ifs : List Expr} {scope : Scope} {own : List (Str × Nat)} {is : List Nat} {mi : Ev → Option (List D)} {mg : D → Ev → Option Ev} {mt : Ev → Option Bool} {me : Ev → Option D} (hc : X.calm = true) (hN : X.N.Nodup) (hi : PI X tg iter (tIF X.K R mi)) (ok : BlkOk X.N X.env.scope scope own)
    (hg : ∀ (s : Shared) (H : Hp) (C : Addr) (cl : List (Str × Addr)) (fp : List Addr), PG (X.blk s H scope (compEnvC scope cl C X.env) fp) tg (tG X.K R is mg)) (ht : ∀ (s : Shared) (H : Hp) (C : Addr) (cl : List (Str × Addr)) (fp : List Addr), PTs (X.blk s H scope (compEnvC scope cl C X.env) fp) ifs (tB X.K R mt))
    (he : ∀ (s : Shared) (H : Hp) (C : Addr) (cl : List (Str × Addr)) (fp : List Addr), PE (X.blk s H scope (compEnvC scope cl C X.env) fp) elt (tF X.K R me)) (his : ∀ i ∈ is, i ∈ own.map (·.2) := by decide) (hs : ∀ x, foldedSetIterable iter X.env x = pure x := by intro _; rfl) :
    PE X (.ListComp elt [⟨tg, iter, ifs, 0⟩] scope pos) (tNL X.K R (mLc (own.map (·.2)) mi mg mt me)) := (pe_lc hc hN hi ok hg ht he hs).imp (tr_lc his)
end
end Mi

end
section
set_option maxHeartbeats 1000000
open PySem PySem.Spec PyProof.Rows
namespace Mi
open L2
section
variable {K : PySem.W.Frag} {R : ORel}
theorem Ende.mono {B : Bs} {F F' : Hp} {E : Ends} {o : Out} (h : Ende K R B F E o) (e : Same F F') : Ende K R B F' E o := by
  cases o with
  | nx ρ => exact fun F2 w2 σ2 H2 W z => h F2 w2 σ2 H2 W (e.trans z)
  | bk ρ => exact fun F2 w2 σ2 H2 W z => h F2 w2 σ2 H2 W (e.trans z)
  | ct ρ => exact fun F2 w2 σ2 H2 W z => h F2 w2 σ2 H2 W (e.trans z)
  | rt d ρ => exact fun v F2 w2 σ2 H2 W z r => h v F2 w2 σ2 H2 W (e.trans z) r
def mSeq (m n : Ev → Option Out) : Ev → Option Out := fun ρ => (m ρ).bind fun o => match o with
  | .nx ρ' => n ρ'
  | .rt d ρ' => some (.rt d ρ')
  | .bk ρ' => some (.bk ρ')
  | .ct ρ' => some (.ct ρ')
def mNext : Ev → Option Out := fun ρ => some (.nx ρ)
def mRet (m : Ev → Option D) : Ev → Option Out := fun ρ => (m ρ).map fun d => .rt d ρ
def mRetE (m : Ev → Option (D × Ev)) : Ev → Option Out := fun ρ => (m ρ).map fun p => .rt p.1 p.2
def mRetN : Ev → Option Out := fun ρ => some (.rt .none ρ)
def mSet (i : Nat) (m : Ev → Option D) : Ev → Option Out := fun ρ => (m ρ).map fun d => .nx (ρ.set i (.fr d))
def mSetE (i : Nat) (m : Ev → Option (D × Ev)) : Ev → Option Out := fun ρ => (m ρ).map fun p => .nx (p.2.set i (.fr p.1))
def mSetN (i : Nat) (m : Ev → Option (List D)) : Ev → Option Out := fun ρ => (m ρ).map fun d => .nx (ρ.set i (.ow (.list d)))
def mAsg (m : Ev → Option D) (g : D → Ev → Option Ev) : Ev → Option Out := fun ρ => (m ρ).bind fun d => (g d ρ).map .nx
def mAsgE (m : Ev → Option (D × Ev)) (g : D → Ev → Option Ev) : Ev → Option Out := fun ρ => (m ρ).bind fun p => (g p.1 p.2).map .nx
def mIfS (t : Ev → Option Bool) (m n : Ev → Option Out) : Ev → Option Out := fun ρ => (t ρ).bind fun c => if c = true then m ρ else n ρ
def mIfSE (t : Ev → Option (Bool × Ev)) (m n : Ev → Option Out) : Ev → Option Out := fun ρ => (t ρ).bind fun c => if c.1 = true then m c.2 else n c.2
def forGo (mg : D → Ev → Option Ev) (mb : Ev → Option Out) : List D → Ev → Option Out
  | [], ρ => some (.nx ρ)
  | d :: ds, ρ => (mg d ρ).bind fun ρ1 => (mb ρ1).bind fun o => match o with
    | .nx ρ2 => forGo mg mb ds ρ2
    | .ct ρ2 => forGo mg mb ds ρ2
    | .bk ρ2 => some (.nx ρ2)
    | .rt d ρ2 => some (.rt d ρ2)
def mFor (mi : Ev → Option (List D)) (mg : D → Ev → Option Ev) (mb : Ev → Option Out) : Ev → Option Out := fun ρ => (mi ρ).bind fun ds => forGo mg mb ds ρ
def mForE (mi : Ev → Option (List D × Ev)) (mg : D → Ev → Option Ev) (mb : Ev → Option Out) : Ev → Option Out := fun ρ => (mi ρ).bind fun p => forGo mg mb p.1 p.2
def whileM (t : Ev → Option Bool) (b : Ev → Option Out) (ρ : Ev) : Option Out :=
  match t ρ with
  | some true => match b ρ with
    | some (.nx ρ') => whileM t b ρ'
    | some (.ct ρ') => whileM t b ρ'
    | some (.bk ρ') => some (.nx ρ')
    | some (.rt d ρ') => some (.rt d ρ')
    | none => none
  | some false => some (.nx ρ)
  | none => none
partial_fixpoint
def whileN (t : Ev → Option Bool) (b : Ev → Option Out) : Nat → Ev → Option Out
  | 0, _ => none
  | n + 1, ρ => (t ρ).bind fun c => if c = true then (b ρ).bind fun o => match o with
    | .nx ρ' => whileN t b n ρ'
    | .ct ρ' => whileN t b n ρ'
    | .bk ρ' => some (.nx ρ')
    | .rt d ρ' => some (.rt d ρ')
  else some (.nx ρ)
theorem whileM_fuel {t : Ev → Option Bool} {b : Ev → Option Out} {ρ : Ev} {o : Out} (h : whileM t b ρ = some o) : ∃ n, whileN t b n ρ = some o := by
  refine whileM.partial_correctness t b (fun ρ o => ∃ n, whileN t b n ρ = some o) (fun f ih ρ o h => ?_) ρ o h
  cases h1 : t ρ with
  | none => rw [h1] at h; cases h
  | some c =>
    rw [h1] at h
    cases c with
    | false => exact ⟨1, by show (t ρ).bind _ = some o; rw [h1]; exact h⟩
    | true =>
      cases h2 : b ρ with
      | none => rw [h2] at h; cases h
      | some o1 =>
        rw [h2] at h
        cases o1 with
        | nx ρ' =>
          obtain ⟨n, hn⟩ := ih _ _ h
          refine ⟨n + 1, ?_⟩
          show (t ρ).bind _ = some o
          rw [h1]
          show (b ρ).bind _ = some o
          rw [h2]
          exact hn
        | ct ρ' =>
          obtain ⟨n, hn⟩ := ih _ _ h
          refine ⟨n + 1, ?_⟩
          show (t ρ).bind _ = some o
          rw [h1]
          show (b ρ).bind _ = some o
          rw [h2]
          exact hn
        | bk ρ' =>
          refine ⟨1, ?_⟩
          show (t ρ).bind _ = some o
          rw [h1]
          show (b ρ).bind _ = some o
          rw [h2]
          exact h
        | rt d ρ' =>
          refine ⟨1, ?_⟩
          show (t ρ).bind _ = some o
          rw [h1]
          show (b ρ).bind _ = some o
          rw [h2]
          exact h
end
section
variable {X : Cx} {R : ORel} {st : Stmt} {sts : List Stmt} {e c tg iter : Expr} {m n : Ev → Option Out} {me : Ev → Option D} {pos pos' p : Pos}
theorem ms_seq (h1 : PS X st (tS X.K R m)) (h2 : PSs X sts (tS X.K R n)) : PSs X (st :: sts) (tS X.K R (mSeq m n)) := (pss_cons h1 h2).imp fun E σ H ⟨B, F, w, ρ, o, W, h, q⟩ => by
  obtain ⟨o1, e1, h⟩ := Option.bind_eq_some_iff.mp h
  refine ⟨B, F, w, ρ, o1, W, e1, ?_⟩
  cases o1 with
  | nx ρ' => exact fun F2 w2 σ2 H2 W2 z => ⟨B, F2, w2, ρ', o, W2, h, q.mono z⟩
  | rt d ρ' => cases h; exact q
  | bk ρ' => cases h; exact q
  | ct ρ' => cases h; exact q
theorem ms_one (h1 : PS X st (tS X.K R m)) : PSs X [st] (tS X.K R m) := pss_one h1
theorem ms_nil : PSs X [] (tS X.K R mNext) := pss_nil.imp fun E σ H ⟨B, F, w, ρ, o, W, h, q⟩ => by
  cases h
  exact q F w σ H W (Same.refl _)
theorem ms_ret (he : PE X e (tF X.K R me)) : PS X (.Return (some e) pos) (tS X.K R (mRet me)) := (ps_ret he).imp fun E σ H ⟨B, F, w, ρ, o, W, h, q⟩ => by
  obtain ⟨d, h1, h⟩ := Option.map_eq_some_iff.mp h
  subst h
  exact ⟨B, F, w, ρ, d, W, h1, fun v F2 H2 E2 r => q v F2 w σ H2 (W.ext E2) E2.ff r⟩
theorem ms_retE {me : Ev → Option (D × Ev)} (he : PE X e (tE X.K R me)) : PS X (.Return (some e) pos) (tS X.K R (mRetE me)) := (ps_ret he).imp fun E σ H ⟨B, F, w, ρ, o, W, h, q⟩ => by
  obtain ⟨⟨d, ρ'⟩, h1, h⟩ := Option.map_eq_some_iff.mp h
  subst h
  exact ⟨B, F, w, ρ, d, ρ', W, h1, fun v F2 w2 H2 W2 z r => q v F2 w2 σ H2 W2 z.ff r⟩
theorem ms_retN : PS X (.Return none pos) (tS X.K R mRetN) := ps_retN.imp fun E σ H ⟨B, F, w, ρ, o, W, h, q⟩ => by
  cases h
  exact q .non F w σ H W (Same.refl _) .non
theorem ms_pass : PS X (.Pass pos) (tS X.K R mNext) := ps_pass.imp fun E σ H ⟨B, F, w, ρ, o, W, h, q⟩ => by
  cases h
  exact q F w σ H W (Same.refl _)
theorem ms_brk : PS X (.Break pos) (tS X.K R fun ρ => some (.bk ρ)) := ps_break.imp fun E σ H ⟨B, F, w, ρ, o, W, h, q⟩ => by
  cases h
  exact q F w σ H W (Same.refl _)
theorem ms_cont : PS X (.Continue pos) (tS X.K R fun ρ => some (.ct ρ)) := ps_continue.imp fun E σ H ⟨B, F, w, ρ, o, W, h, q⟩ => by
  cases h
  exact q F w σ H W (Same.refl _)
theorem tr_set {K : PySem.W.Frag} {i : Nat} : ∀ E σ H, tS K R (mSet i me) E σ H → tAsg (tF K R me) (gName i) E σ H := fun E σ H ⟨B, F, w, ρ, o, W, h, q⟩ => by
  obtain ⟨d, h1, h⟩ := Option.map_eq_some_iff.mp h
  subst h
  refine ⟨B, F, w, ρ, d, W, h1, fun v F2 H2 E2 r => ?_⟩
  exact q F2 w _ H2 ((W.ext E2).setF (i := i) r) E2.ff
theorem tr_setE {K : PySem.W.Frag} {i : Nat} {me : Ev → Option (D × Ev)} : ∀ E σ H, tS K R (mSetE i me) E σ H → tAsg (tE K R me) (gName i) E σ H := fun E σ H ⟨B, F, w, ρ, o, W, h, q⟩ => by
  obtain ⟨⟨d, ρ'⟩, h1, h⟩ := Option.map_eq_some_iff.mp h
  subst h
  refine ⟨B, F, w, ρ, d, ρ', W, h1, fun v F2 w2 H2 W2 z r => ?_⟩
  exact q F2 w2 _ H2 (W2.setF (i := i) r) z.ff
theorem frs_new {K : PySem.W.Frag} {B : Bs} {F F' H H' : Hp} {w : Addr → Option Nat} {ρ : Ev} {σ : St} {a : Addr} {o : HO} (W : WF K R B F w ρ σ H) (nf : F' a = none) (nh : H a = none) (hh : H' a = some o) : Frs B F' H' w (fun b => b = a) := fun b e => by
  subst e
  refine ⟨nf, ?_, by rw [hh]; exact (fun z => nomatch z), ?_⟩
  · cases z : w b with
    | none => rfl
    | some i => exact absurd nh (W.wf b i z).2.1
  · cases z : B.H b with
    | none => rfl
    | some u => exact absurd nh (W.dom b (by rw [z]; exact fun q => nomatch q))
theorem tr_setN {K : PySem.W.Frag} {i : Nat} {me : Ev → Option (List D)} : ∀ E σ H, tS K R (mSetN i me) E σ H → tAsg (tNL K R me) (gName i) E σ H := fun E σ H ⟨B, F, w, ρ, o, W, h, q⟩ => by
  obtain ⟨d, h1, h⟩ := Option.map_eq_some_iff.mp h
  subst h
  refine ⟨B, F, w, ρ, d, W, h1, fun a vs F2 H2 E2 nf nh hh r => ?_⟩
  obtain ⟨w', W', _⟩ := (W.ext E2).set1 (i := i) (v := .ref a) (s := .ow (.list d)) (S := fun b => b = a) (.inl ⟨a, vs, d, rfl, rfl, rfl, hh, r⟩) (frs_new W nf nh hh)
  exact q F2 w' _ H2 W' E2.ff
theorem ms_set {i : Nat} {x : Str} (hN : X.N.Nodup) (hi : X.N[i]? = some x) (hx : Loc X.env.scope x) (he : PE X e (tF X.K R me)) (hs : swapsWith e (some (.Name x pos')) pos.line X.env = pure false := by rfl) (hf : X.fn x = true ∨ X.env.scope.names.lookup x = some .local := by first | exact .inl rfl | exact .inr rfl | assumption) : PS X (.Assign [.Name x pos'] e pos) (tS X.K R (mSet i me)) :=
  (ps_set hN hi hx he hs hf).imp tr_set
theorem ms_setE {i : Nat} {x : Str} {me : Ev → Option (D × Ev)} (hN : X.N.Nodup) (hi : X.N[i]? = some x) (hx : Loc X.env.scope x) (he : PE X e (tE X.K R me)) (hs : swapsWith e (some (.Name x pos')) pos.line X.env = pure false := by rfl) (hf : X.fn x = true ∨ X.env.scope.names.lookup x = some .local := by first | exact .inl rfl | exact .inr rfl | assumption) : PS X (.Assign [.Name x pos'] e pos) (tS X.K R (mSetE i me)) :=
  (ps_set hN hi hx he hs hf).imp tr_setE
theorem ms_setN {i : Nat} {x : Str} {me : Ev → Option (List D)} (hN : X.N.Nodup) (hi : X.N[i]? = some x) (hx : Loc X.env.scope x) (he : PE X e (tNL X.K R me)) (hs : swapsWith e (some (.Name x pos')) pos.line X.env = pure false := by rfl) (hf : X.fn x = true ∨ X.env.scope.names.lookup x = some .local := by first | exact .inl rfl | exact .inr rfl | assumption) : PS X (.Assign [.Name x pos'] e pos) (tS X.K R (mSetN i me)) :=
  (ps_set hN hi hx he hs hf).imp tr_setN
/-- x = [e for ..] -/
theorem tr_asgLc {K : PySem.W.Frag} {t t' : TE} {i : Nat} (k : ∀ σ H Q, t' σ H Q → t σ H Q) : ∀ E σ H, tAsg t' (gName i) E σ H → tAsg t (gName i) E σ H := fun E σ H h => k _ _ _ h
theorem pn_f {K : PySem.W.Frag} {me : Ev → Option (List D)} : ∀ σ H Q, tF K R (mList me) σ H Q → tNL K R me σ H Q := fun σ H Q ⟨B, F, w, ρ, d, W, h, q⟩ => by
  obtain ⟨ds, h1, h⟩ := Option.map_eq_some_iff.mp h
  subst h
  refine ⟨B, F, w, ρ, ds, W, h1, fun a vs F' H' E nf nh hh hr => ?_⟩
  have ff : Same F' (upd F' a (.lst vs)) := fun b u e => by rw [upd_ne (ne_of_none e nf)]; exact e
  refine q _ (upd F' a (.lst vs)) H' ⟨E.ff.trans ff, fun b u e => ?_, E.hh, fun b e => ?_⟩ (.lst upd_same (hr.up ff))
  · by_cases z : b = a
    · subst z; rw [upd_same] at e; cases e; exact hh
    · rw [upd_ne z] at e; exact E.fh b u e
  · by_cases z : b = a
    · subst z; exact .inr nh
    · rw [upd_ne z] at e; exact E.nw b e
section
variable {elt : Expr} {ifs : List Expr} {scope : Scope} {own : List (Str × Nat)} {is : List Nat} {mi : Ev → Option (List D)} {mg : D → Ev → Option Ev} {mt : Ev → Option Bool} {mv : Ev → Option D} {spos py : Pos} {i : Nat} {y : Str}
theorem ms_setLcN (hc : X.calm = true) (hN : X.N.Nodup) (hy : X.N[i]? = some y) (hyl : X.env.scope.names.lookup y = some .local)
    (hsw : swapsWith (.ListComp elt [⟨tg, iter, ifs, 0⟩] scope pos) (some (.Name y py)) spos.line X.env = pure true) (hi : PI X tg iter (tIF X.K R mi)) (ok : BlkOk X.N X.env.scope scope own)
    (hg : ∀ (s : Shared) (H : Hp) (C : Addr) (cl : List (Str × Addr)) (fp : List Addr), PG (X.blk s H scope (compEnvC scope cl C X.env) fp) tg (tG X.K R is mg)) (ht : ∀ (s : Shared) (H : Hp) (C : Addr) (cl : List (Str × Addr)) (fp : List Addr), PTs (X.blk s H scope (compEnvC scope cl C X.env) fp) ifs (tB X.K R mt))
    (he : ∀ (s : Shared) (H : Hp) (C : Addr) (cl : List (Str × Addr)) (fp : List Addr), PE (X.blk s H scope (compEnvC scope cl C X.env) fp) elt (tF X.K R mv)) (his : ∀ i ∈ is, i ∈ own.map (·.2) := by decide) (hs : ∀ x, foldedSetIterable iter X.env x = pure x := by intro _; rfl) :
    PS X (.Assign [.Name y py] (.ListComp elt [⟨tg, iter, ifs, 0⟩] scope pos) spos) (tS X.K R (mSetN i (mLc (own.map (·.2)) mi mg mt mv))) :=
  (ps_setLc hc hN hy hyl hsw hi ok hg ht he hs).imp fun E σ H h => tr_asgLc (K := X.K) (tr_lc his) E σ H (tr_setN E σ H h)
theorem ms_setLc (hc : X.calm = true) (hN : X.N.Nodup) (hy : X.N[i]? = some y) (hyl : X.env.scope.names.lookup y = some .local)
    (hsw : swapsWith (.ListComp elt [⟨tg, iter, ifs, 0⟩] scope pos) (some (.Name y py)) spos.line X.env = pure true) (hi : PI X tg iter (tIF X.K R mi)) (ok : BlkOk X.N X.env.scope scope own)
    (hg : ∀ (s : Shared) (H : Hp) (C : Addr) (cl : List (Str × Addr)) (fp : List Addr), PG (X.blk s H scope (compEnvC scope cl C X.env) fp) tg (tG X.K R is mg)) (ht : ∀ (s : Shared) (H : Hp) (C : Addr) (cl : List (Str × Addr)) (fp : List Addr), PTs (X.blk s H scope (compEnvC scope cl C X.env) fp) ifs (tB X.K R mt))
    (he : ∀ (s : Shared) (H : Hp) (C : Addr) (cl : List (Str × Addr)) (fp : List Addr), PE (X.blk s H scope (compEnvC scope cl C X.env) fp) elt (tF X.K R mv)) (his : ∀ i ∈ is, i ∈ own.map (·.2) := by decide) (hs : ∀ x, foldedSetIterable iter X.env x = pure x := by intro _; rfl) :
    PS X (.Assign [.Name y py] (.ListComp elt [⟨tg, iter, ifs, 0⟩] scope pos) spos) (tS X.K R (mSet i (mList (mLc (own.map (·.2)) mi mg mt mv)))) :=
  (ps_setLc hc hN hy hyl hsw hi ok hg ht he hs).imp fun E σ H h => tr_asgLc (K := X.K) (fun σ H Q z => tr_lc his σ H Q (pn_f σ H Q z)) E σ H (tr_set E σ H h)
end
theorem ms_asg {g : D → Ev → Option Ev} {is : List Nat} (he : PE X e (tF X.K R me)) (hg : PG X tg (tG X.K R is g)) (hs : swapsWithSole [tg] e pos.line X.env = pure false := by rfl) (hw : swappedStores [tg] e X.env = pure none := by rfl) (h1 : (assignEach [tg] X.env).map (·.2) = [assign tg X.env] := by rfl) : PS X (.Assign [tg] e pos) (tS X.K R (mAsg me g)) :=
  (ps_asg he hg hs hw h1).imp fun E σ H ⟨B, F, w, ρ, o, W, h, q⟩ => by
    obtain ⟨d, h1, h⟩ := Option.bind_eq_some_iff.mp h
    obtain ⟨ρ', h2, h⟩ := Option.map_eq_some_iff.mp h
    subst h
    refine ⟨B, F, w, ρ, d, W, h1, fun v F2 H2 E2 r => ?_⟩
    exact ⟨B, F2, w, ρ, d, ρ', W.ext E2, r, h2, fun σ3 W3 _ => q F2 w σ3 H2 W3 E2.ff⟩
theorem ms_asgE {g : D → Ev → Option Ev} {is : List Nat} {me : Ev → Option (D × Ev)} (he : PE X e (tE X.K R me)) (hg : PG X tg (tG X.K R is g)) (hs : swapsWithSole [tg] e pos.line X.env = pure false := by rfl) (hw : swappedStores [tg] e X.env = pure none := by rfl) (h1 : (assignEach [tg] X.env).map (·.2) = [assign tg X.env] := by rfl) : PS X (.Assign [tg] e pos) (tS X.K R (mAsgE me g)) :=
  (ps_asg he hg hs hw h1).imp fun E σ H ⟨B, F, w, ρ, o, W, h, q⟩ => by
    obtain ⟨⟨d, ρ1⟩, h1, h⟩ := Option.bind_eq_some_iff.mp h
    obtain ⟨ρ', h2, h⟩ := Option.map_eq_some_iff.mp h
    subst h
    refine ⟨B, F, w, ρ, d, ρ1, W, h1, fun v F2 w2 H2 W2 z r => ?_⟩
    exact ⟨B, F2, w2, ρ1, d, ρ', W2, r, h2, fun σ3 W3 _ => q F2 w2 σ3 H2 W3 z.ff⟩
theorem ms_if {t : Ev → Option Bool} {as bs : List Stmt} (hc : PT X c (tB X.K R t)) (ha : PSs X as (tS X.K R m)) (hb : PSs X bs (tS X.K R n)) : PS X (.If c as bs pos) (tS X.K R (mIfS t m n)) := (ps_if hc ha hb).imp fun E σ H ⟨B, F, w, ρ, o, W, h, q⟩ => by
  obtain ⟨x, h1, h⟩ := Option.bind_eq_some_iff.mp h
  refine ⟨B, F, w, ρ, x, W, h1, fun F1 H1 E1 => ?_⟩
  split at h
  · rename_i hx; subst hx
    exact iteT ⟨B, F1, w, ρ, o, W.ext E1, h, q.mono E1.ff⟩
  · rename_i hx
    have hx : x = false := by simpa using hx
    subst hx
    exact iteF ⟨B, F1, w, ρ, o, W.ext E1, h, q.mono E1.ff⟩
theorem ms_ifE {t : Ev → Option (Bool × Ev)} {as bs : List Stmt} (hc : PT X c (tBE X.K R t)) (ha : PSs X as (tS X.K R m)) (hb : PSs X bs (tS X.K R n)) : PS X (.If c as bs pos) (tS X.K R (mIfSE t m n)) := (ps_if hc ha hb).imp fun E σ H ⟨B, F, w, ρ, o, W, h, q⟩ => by
  obtain ⟨⟨x, ρ1⟩, h1, h⟩ := Option.bind_eq_some_iff.mp h
  refine ⟨B, F, w, ρ, x, ρ1, W, h1, fun F1 w1 H1 W1 z => ?_⟩
  cases x with
  | true => exact iteT ⟨B, F1, w1, ρ1, o, W1, h, q.mono z.ff⟩
  | false => exact iteF ⟨B, F1, w1, ρ1, o, W1, h, q.mono z.ff⟩
theorem tr_forgo {K : PySem.W.Frag} {mg : D → Ev → Option Ev} {mb : Ev → Option Out} {is : List Nat} {B : Bs} {F : Hp} {w : Addr → Option Nat} {ρ : Ev} {σ : St} {H : Hp} {E : Ends} {o : Out} {J : It} {ds : List D} (W : WF K R B F w ρ σ H) (g : GoesD K J F ds) (h : forGo mg mb ds ρ = some o) (q : Ende K R B F E o) :
    ∃ W : Nat → Nat → St → Hp → Prop, (∃ m, W 0 m σ H) ∧ ∀ i m σ H, W i m σ H →
      (J.stop i H ∧ E.nx σ H) ∨ (J.go i H ∧ ∃ N : St → Hp → Prop, (∀ σ' H', N σ' H' → ∃ m', m' < m ∧ W (i + 1) m' σ' H') ∧ ∀ x H', J.yld i H x H' → (tG K R is mg) x σ H' fun σ2 H2 => (tS K R mb) { E with nx := N, ct := N, bk := E.nx } σ2 H2) := by
  obtain ⟨G, Y, wk, hG, hY⟩ := g
  refine for_it wk (fun i σ H => ∃ F' w' ρ', WF K R B F' w' ρ' σ H ∧ Same F F' ∧ forGo mg mb (ds.drop i) ρ' = some o) ⟨F, w, ρ, W, Same.refl _, h⟩ (fun i σ H _ ⟨F', w', ρ', W', z, _⟩ => hG H (z.trans W'.fh)) ?_ ?_
  · rintro i x σ1 H1 H1' hi ⟨F', w', ρ', W', z, hgo⟩ y
    obtain ⟨F2, d, hd1, E2, rx⟩ := hY i F' H1 x H1' hi (z.trans W'.fh) W'.fh (fun _ _ r => r.up z) y
    have hdrop : ds.drop i = d :: ds.drop (i + 1) := by
      have hi' : i < ds.length := (List.getElem?_eq_some_iff.mp hd1).1
      rw [List.drop_eq_getElem_cons hi']
      have := (List.getElem?_eq_some_iff.mp hd1).2
      rw [this]
    rw [hdrop] at hgo
    obtain ⟨ρ1, g1, hgo⟩ := Option.bind_eq_some_iff.mp hgo
    obtain ⟨o1, g2, hgo⟩ := Option.bind_eq_some_iff.mp hgo
    refine ⟨B, F2, w', ρ', d, ρ1, W'.ext E2, rx, g1, fun σ2 W2 _ => ?_⟩
    have zz : Same F F2 := z.trans E2.ff
    refine ⟨B, F2, w', ρ1, o1, W2, g2, ?_⟩
    cases o1 with
    | nx ρ2 => exact fun F3 w3 σ3 H3 W3 z3 => ⟨F3, w3, ρ2, W3, zz.trans z3, hgo⟩
    | ct ρ2 => exact fun F3 w3 σ3 H3 W3 z3 => ⟨F3, w3, ρ2, W3, zz.trans z3, hgo⟩
    | bk ρ2 =>
      cases hgo
      exact fun F3 w3 σ3 H3 W3 z3 => q F3 w3 σ3 H3 W3 (zz.trans z3)
    | rt d2 ρ2 =>
      cases hgo
      exact fun v F3 w3 σ3 H3 W3 z3 r3 => q v F3 w3 σ3 H3 W3 (zz.trans z3) r3
  · rintro σ1 H1 ⟨F', w', ρ', W', z, hgo⟩
    rw [List.drop_length] at hgo
    cases hgo
    exact q F' w' σ1 H1 W' z
theorem ms_for {mi : Ev → Option (List D)} {mg : D → Ev → Option Ev} {mb : Ev → Option Out} {is : List Nat} {body : List Stmt} (hp : PassesOwn (model X.prog X.w) X.A X.env X.xe) (hc : X.calm = true) (hi : PI X tg iter (tIF X.K R mi)) (hg : PG X tg (tG X.K R is mg)) (hb : PSs X body (tS X.K R mb)) (hs : ∀ x, foldedSetIterable iter X.env x = pure x := by intro _; rfl) :
    PS X (.For tg iter body [] pos) (tS X.K R (mFor mi mg mb)) := (ps_for hp hc hi hg hb hs).imp fun E σ H ⟨B, F, w, ρ, o, W, h, q⟩ => by
  obtain ⟨ds, h1, h⟩ := Option.bind_eq_some_iff.mp h
  exact ⟨B, F, w, ρ, ds, W, h1, fun J F1 H1 E1 g => tr_forgo (W.ext E1) g h (q.mono E1.ff)⟩
theorem ms_while {t : Ev → Option Bool} {mb : Ev → Option Out} {body : List Stmt} (hp : PassesOwn (model X.prog X.w) X.A X.env X.xe) (hc : PT X c (tB X.K R t)) (hb : PSs X body (tS X.K R mb)) : PS X (.While c body [] pos) (tS X.K R (whileM t mb)) :=
  (ps_while hp hc hb).imp fun E σ H ⟨B, F, w, ρ, o, W, h, q⟩ => by
    obtain ⟨n0, hn⟩ := whileM_fuel h
    refine ⟨fun k σ H => ∃ F' w' ρ', WF X.K R B F' w' ρ' σ H ∧ Same F F' ∧ whileN t mb k ρ' = some o, ⟨n0, F, w, ρ, W, Same.refl _, hn⟩, ?_⟩
    rintro k σ1 H1 ⟨F', w', ρ', W', z, hgo⟩
    cases k with
    | zero => cases hgo
    | succ k =>
      obtain ⟨x, g1, hgo⟩ := Option.bind_eq_some_iff.mp hgo
      refine ⟨B, F', w', ρ', x, W', g1, fun F2 H2 E2 => ?_⟩
      split at hgo
      · rename_i hx; subst hx
        obtain ⟨o1, g2, hgo⟩ := Option.bind_eq_some_iff.mp hgo
        refine iteT ⟨fun σ3 H3 => ∃ F3 w3 ρ3, WF X.K R B F3 w3 ρ3 σ3 H3 ∧ Same F F3 ∧ whileN t mb k ρ3 = some o, fun σ3 H3 hw => ⟨k, Nat.lt_succ_self _, hw⟩, ?_⟩
        have zz : Same F F2 := z.trans E2.ff
        refine ⟨B, F2, w', ρ', o1, W'.ext E2, g2, ?_⟩
        cases o1 with
        | nx ρ2 => exact fun F3 w3 σ3 H3 W3 z3 => ⟨F3, w3, ρ2, W3, zz.trans z3, hgo⟩
        | ct ρ2 => exact fun F3 w3 σ3 H3 W3 z3 => ⟨F3, w3, ρ2, W3, zz.trans z3, hgo⟩
        | bk ρ2 =>
          cases hgo
          exact fun F3 w3 σ3 H3 W3 z3 => q F3 w3 σ3 H3 W3 (zz.trans z3)
        | rt d2 ρ2 =>
          cases hgo
          exact fun v F3 w3 σ3 H3 W3 z3 r3 => q v F3 w3 σ3 H3 W3 (zz.trans z3) r3
      · rename_i hx
        have hx : x = false := by simpa using hx
        subst hx
        cases hgo
        exact iteF (q F2 w' σ1 H2 (W'.ext E2) (z.trans E2.ff))
end

/-! ### defs -/
/-- a def that changes nothing that was there: what it gives is m of its arguments -/
def spP (K : PySem.W.Frag) (m : List D → Option D) : Sp := fun vs H Q _ => ∃ F ds d, Same F H ∧ RpAll K F vs ds ∧ m ds = some d ∧ ∀ v F' H', Ext F H F' H' → Rp K F' v d → Q v H'
def startE (n : Nat) (ds : List D) : Ev := ds.map .fr ++ List.replicate (n - ds.length) .no
def outD : Out → Option D
  | .nx _ => some .none
  | .rt d _ => some d
  | _ => none
def mFun (n a : Nat) (m : Ev → Option Out) : List D → Option D := fun ds => if ds.length = a then (m (startE n ds)).bind outD else none
theorem WF.start {K : PySem.W.Frag} {R : ORel} {F H : Hp} {vs : List V} {ds : List D} {N : List Str} (e : Same F H) (r : RpAll K F vs ds) : WF K R ⟨F, H, fun _ => False⟩ F (fun _ => none) (startE N.length ds) (L2.start N vs) H := by
  refine ⟨e, Same.refl _, fun a h => .inl h, (fun a i h => nomatch h), fun a _ o h => h, fun a h => h, ?_, fun i s h => ?_⟩
  · unfold startE L2.start
    rw [List.length_append, List.length_append, List.length_map, List.length_map, List.length_replicate, List.length_replicate, r.length]
  · unfold startE at h
    by_cases hi : i < ds.length
    · rw [List.getElem?_append_left (by rw [List.length_map]; exact hi), List.getElem?_map] at h
      obtain ⟨d, h1, h⟩ := Option.map_eq_some_iff.mp h
      subst h
      obtain ⟨v, h2, h3⟩ := r.get h1
      refine ⟨v, ?_, h3⟩
      unfold L2.start
      rw [List.getElem?_append_left (by rw [List.length_map, r.length]; exact hi), List.getElem?_map, h2]
      rfl
    · rw [List.getElem?_append_right (by rw [List.length_map]; omega), List.getElem?_replicate] at h
      split at h
      · cases h; trivial
      · cases h
section
variable {P : Program} {w : World} {K : PySem.W.Frag} {mg : Str → Option Value} {base : Heap} {R : ORel}
theorem fn_okP {x qual : Str} {st : Stmt} {f : Addr} {fd : FuncData} {N ps : List Str} {k : Nat} {m : Ev → Option Out} (F : Fun K x qual st f fd) (S : FnScope N ps (defScope st))
    (hb : ∀ (cdv : Value) (A : Around) (outer : List Env) (s : Shared) (H : Hp) (E : XK), Room k (A.deeper (envOfC qual (defScope st) s.heap.objs.size f cdv)) → PSs (cxOf CX0 P w K mg base N qual (defScope st) f cdv A outer s H E).nox (defBody st) (tS K R m)) :
    FnOk P w K mg base CX0 (k + 1) f fd ps (spP K (mFun N.length ps.length m)) := by
  refine F.ok S (fun vs H Q E h => ?_) (fun cdv A outer s H vs Q E hr h => ?_)
  · obtain ⟨F', ds, d, e, r, h, _⟩ := h
    unfold mFun at h
    split at h
    · rename_i hl
      rw [r.length]; exact hl
    · cases h
  · obtain ⟨F', ds, d, e, r, h, q⟩ := h
    unfold mFun at h
    split at h
    · rename_i hl
      obtain ⟨o, h1, h⟩ := Option.bind_eq_some_iff.mp h
      refine ⟨_, hb cdv A outer s H E hr, ⟨F', H, fun _ => False⟩, F', _, _, o, WF.start e r, h1, ?_⟩
      have ex : ∀ {F2 : Hp} {w2 : Addr → Option Nat} {ρ2 : Ev} {σ2 : St} {H2 : Hp}, WF K R ⟨F', H, fun _ => False⟩ F2 w2 ρ2 σ2 H2 → Ext F' H F2 H2 := fun W2 => ⟨W2.f0, W2.fh, fun a o z => W2.keep a (fun q => q) o z, W2.fn⟩
      cases o with
      | nx ρ => cases h; exact fun F2 w2 σ2 H2 W2 _ => q .non F2 H2 (ex W2) .non
      | rt d' ρ => cases h; exact fun v F2 w2 σ2 H2 W2 _ r2 => q v F2 H2 (ex W2) r2
      | bk ρ => cases h
      | ct ρ => cases h
    · cases h
end
section
variable {X : Cx} {R : ORel} {x : Str} {p pos : Pos} {e : Expr} {es : List Expr} {f : Addr} {fd : FuncData} {ps : List Str} {k : Nat} {g : List D → Option D} {n : Ev → Option (List D)}
theorem tr_call {K : PySem.W.Frag} {ta : TA} (hk : ∀ σ H Q, tAF K R n σ H Q → ta σ H Q) : ∀ σ H Q, tF K R (mC n g) σ H Q → tCall (spP K g) [] E0 ta σ H Q := fun σ H Q ⟨B, F, w, ρ, d, W, h, q⟩ => by
  obtain ⟨ds, h1, h⟩ := Option.bind_eq_some_iff.mp h
  refine hk _ _ _ ⟨B, F, w, ρ, ds, W, h1, fun vs F1 H1 E1 r1 => ?_⟩
  exact ⟨F1, ds, d, E1.fh, by rw [List.append_nil]; exact r1, h, fun v F2 H2 E2 r2 => q v F2 H2 (E1.trans E2) r2⟩
theorem pf_call (G : FnOk X.prog X.w X.K X.mg X.base CX0 k f fd ps (spP X.K g)) (hr : Room k X.A) (hg : Gl X x) (hm : X.mg x = some (.ref f)) (hk : PySem.W.keepIn X.K (.ref f) = true) (hb : Binds X.K fd ps []) (ha : PA X (e :: es) (tAF X.K R n))
    (hd : (x == ("__debug__" : Str)) = false := by decide) (he : starEach (e :: es) X.env = (false, eval e X.env) :: starEach es X.env := by rfl) (hpl : (backTo pos (starEach es X.env)).any (·.1) = false := by rfl) : PE X (.Call (.Name x p) (e :: es) [] pos) (tF X.K R (mC n g)) :=
  (pe_call G hr hg hm hk hb .nil pass0 ha hd he hpl).imp (tr_call fun _ _ _ h => h)
end
end Mi

end
section
set_option maxHeartbeats 2000000
open PySem PySem.Spec PyProof.Rows
namespace Mi
open L2
/-! ### any, all, min, max of data -/
/-- a list or a tuple of data, as it is read -/
def SeqD (K : PySem.W.Frag) (H : Hp) (x : V) (ds : List D) : Prop := ∃ k a xs, x = .ref a ∧ SqS k K H a xs ∧ DpAll K H xs ds
section
variable {X : Cx}
theorem reads_len {h : Heap} : ∀ {vs : List Value} {xs : List D} {as : List Addr}, ReadsAll h vs xs as → vs.length = xs.length
  | _, _, _, .nil => rfl
  | _, _, _, .cons _ t => by rw [List.length_cons, List.length_cons, reads_len t]
def sizesOk (ds : List D) : Bool := ds.all fun d => match d with
  | .str x => decide (x.length ≤ LL)
  | .list xs => decide (xs.length ≤ LL)
  | .tuple xs => decide (xs.length ≤ LL)
  | _ => true
def rAnyD (K : PySem.W.Frag) (f : List D → Bool) : List V → Hp → VK → Prop := fun vs H Q => ∃ x ds, vs = [x] ∧ SeqD K H x ds ∧ PyData.plainAll ds = true ∧ (∀ x ∈ ds, x.fits63) ∧ Q (.bl (f ds)) H
theorem cr_anyD (hc : X.calm = true) : CallR X (.builtin "any") (rAnyD X.K fun ds => ds.any PyData.truthy) := by
  intro pins s σ H vs us Q I r h
  obtain ⟨x, ds, rfl, ⟨k, a, xs, rfl, hs, hd⟩, hp, hf, q⟩ := h
  obtain ⟨its, rv, hl, _⟩ := I.seqS hs
  rw [Vals.ref1 r]
  obtain ⟨as, hr⟩ := Dp.readsAll I ds _ _ hd rv
  cases k with
  | true => exact PySem.W.any_tuple_data (I.ok.hd hc) (show s.heap.IsTuple a its.toArray from hl) (by simpa using hr) hp hf fun h' tk hk => ⟨.bl _, H, I.kept hk, rfl, q⟩
  | false => exact PySem.W.any_list_data (I.ok.hd hc) (show s.heap.IsList a its.toArray from hl) (by simpa using hr) hp hf fun h' tk hk => ⟨.bl _, H, I.kept hk, rfl, q⟩
theorem cr_allD (hc : X.calm = true) : CallR X (.builtin "all") (rAnyD X.K fun ds => ds.all PyData.truthy) := by
  intro pins s σ H vs us Q I r h
  obtain ⟨x, ds, rfl, ⟨k, a, xs, rfl, hs, hd⟩, hp, hf, q⟩ := h
  obtain ⟨its, rv, hl, _⟩ := I.seqS hs
  rw [Vals.ref1 r]
  obtain ⟨as, hr⟩ := Dp.readsAll I ds _ _ hd rv
  cases k with
  | true => exact PySem.W.all_tuple_data (I.ok.hd hc) (show s.heap.IsTuple a its.toArray from hl) (by simpa using hr) hp hf fun h' tk hk => ⟨.bl _, H, I.kept hk, rfl, q⟩
  | false => exact PySem.W.all_list_data (I.ok.hd hc) (show s.heap.IsList a its.toArray from hl) (by simpa using hr) hp hf fun h' tk hk => ⟨.bl _, H, I.kept hk, rfl, q⟩
def rMinMax (K : PySem.W.Frag) (f : D → List D → D) : List V → Hp → VK → Prop := fun vs H Q => ∃ x d ds, vs = [x] ∧ (∃ k a xs, x = .ref a ∧ SqS k K H a xs ∧ DpAll K H xs (d :: ds) ∧ PySem.W.AlikeAll (d :: ds) ∧ PyData.depthAll (d :: ds) ≤ 60 ∧
  ∀ (i : Nat) v e, xs[i]? = some v → (d :: ds)[i]? = some e → e = f d ds → Q v H)
theorem min_core {pins : List (Addr × Obj)} {σ : St} {H : Hp} {s : Shared} {xs : List V} {d : D} {ds : List D} {its : List Value} {Q : VK} {f : D → List D → D} {as : List Addr} (I : Inv X pins σ H s) (rv : Vals xs its) (hd : DpAll X.K H xs (d :: ds)) (hr : ReadsAll s.heap its (d :: ds) as)
    (q : ∀ (i : Nat) v e, xs[i]? = some v → (d :: ds)[i]? = some e → e = f d ds → Q v H) :
    ∀ (i : Nat) v h' tk bs, its.toArray[i]? = some v → Reads h' v (f d ds) bs → (∀ b o, s.heap.get? b = some o → h'.get? b = some o) → EP X pins σ Q v { s with heap := h', toks := tk } := by
  intro i v h' tk bs hv hrd hk
  rw [List.getElem?_toArray] at hv
  have hlen := rv.length
  have hlen2 : its.length = (d :: ds).length := reads_len hr
  have hi : i < its.length := (List.getElem?_eq_some_iff.mp hv).1
  have hx : xs[i]? = some (xs[i]'(by omega)) := List.getElem?_eq_getElem _
  have he : (d :: ds)[i]? = some ((d :: ds)[i]'(by omega)) := List.getElem?_eq_getElem _
  obtain ⟨u, hu, ru⟩ := rv.get hx
  rw [hv] at hu
  cases hu
  -- what stands at i
  have key : ∀ (j : Nat) (vs : List V) (es : List D), DpAll X.K H vs es → ∀ x e, vs[j]? = some x → es[j]? = some e → Dp X.K H x e := by
    intro j
    induction j with
    | zero =>
      intro vs es h x e h1 h2
      cases h with
      | nil => simp at h1
      | cons a t => simp at h1 h2; subst h1; subst h2; exact a
    | succ j ih =>
      intro vs es h x e h1 h2
      cases h with
      | nil => simp at h1
      | cons a t => exact ih _ _ t x e (by simpa using h1) (by simpa using h2)
  obtain ⟨cs, rr⟩ := Dp.reads I _ _ _ (key i _ _ hd _ _ hx he) ru
  have rr' := PyProof.Rows.Reads.keeps hk rr
  have e : (d :: ds)[i]'(by omega) = f d ds := (PySem.Reads.unique rr' _ _ hrd).1
  exact ⟨_, H, I.kept hk, ru, q i _ _ hx he e⟩
theorem cr_minD (hc : X.calm = true) (hu : X.A.units + 64 < cLine) : CallR X (.builtin "min") (rMinMax X.K PySem.W.minD) := by
  intro pins s σ H vs us Q I r h
  obtain ⟨x, d, ds, rfl, k, a, xs, rfl, hs, hd, ha, hz, q⟩ := h
  obtain ⟨its, rv, hl, _⟩ := I.seqS hs
  rw [Vals.ref1 r]
  obtain ⟨as, hr⟩ := Dp.readsAll I (d :: ds) _ _ hd rv
  cases k with
  | true => exact PySem.W.min_tuple_data (I.ok.hd hc) (show s.heap.IsTuple a its.toArray from hl) (by simpa using hr) ha (by omega) (min_core I rv hd hr q)
  | false => exact PySem.W.min_list_data (I.ok.hd hc) (show s.heap.IsList a its.toArray from hl) (by simpa using hr) ha (by omega) (min_core I rv hd hr q)
theorem cr_maxD (hc : X.calm = true) (hu : X.A.units + 64 < cLine) : CallR X (.builtin "max") (rMinMax X.K PySem.W.maxD) := by
  intro pins s σ H vs us Q I r h
  obtain ⟨x, d, ds, rfl, k, a, xs, rfl, hs, hd, ha, hz, q⟩ := h
  obtain ⟨its, rv, hl, _⟩ := I.seqS hs
  rw [Vals.ref1 r]
  obtain ⟨as, hr⟩ := Dp.readsAll I (d :: ds) _ _ hd rv
  cases k with
  | true => exact PySem.W.max_tuple_data (I.ok.hd hc) (show s.heap.IsTuple a its.toArray from hl) (by simpa using hr) ha (by omega) (min_core I rv hd hr q)
  | false => exact PySem.W.max_list_data (I.ok.hd hc) (show s.heap.IsList a its.toArray from hl) (by simpa using hr) ha (by omega) (min_core I rv hd hr q)
end
section
variable {K : PySem.W.Frag}
theorem Tr.seq {F H : Hp} {v : V} {d : D} {ds : List D} (r : Tr K F H v d) (e : Same F H) (h : itemsD d = some ds) : ∃ k a vs, v = .ref a ∧ SqS k K H a vs ∧ RpAll K F vs ds := by
  cases d with
  | list xs => cases h; obtain ⟨a, vs, rfl, h1, h2⟩ := r.list e; exact ⟨false, a, vs, rfl, SqL.of h1, h2⟩
  | tuple xs => cases h; obtain ⟨a, vs, rfl, h1, h2⟩ := r.tuple e; exact ⟨true, a, vs, rfl, h1, h2⟩
  | _ => cases h
theorem TrAll.one {F H : Hp} {vs : List V} {d : D} (r : TrAll K F H vs [d]) : ∃ v, vs = [v] ∧ Tr K F H v d := by
  cases r with | cons a t => cases t; exact ⟨_, rfl, a⟩
/-- the items of the one argument -/
def arg1 : List D → Option (List D)
  | [d] => itemsD d
  | _ => none
theorem arg1_of {F H : Hp} {vs : List V} {as ds : List D} (r : TrAll K F H vs as) (e : Same F H) (h : arg1 as = some ds) : ∃ k a us, vs = [.ref a] ∧ SqS k K H a us ∧ RpAll K F us ds := by
  unfold arg1 at h
  split at h
  · obtain ⟨v, rfl, r1⟩ := r.one
    obtain ⟨k, a, us, rfl, h1, h2⟩ := Tr.seq r1 e h
    exact ⟨k, a, us, rfl, h1, h2⟩
  · cases h
def plainOk (ds : List D) : Bool := PyData.canLayAll0 ds && sizesOk ds
def anyD (as : List D) : Option D := (arg1 as).bind fun ds => if plainOk ds = true then some (.bool (ds.any PyData.truthy)) else none
def allD (as : List D) : Option D := (arg1 as).bind fun ds => if plainOk ds = true then some (.bool (ds.all PyData.truthy)) else none
theorem fits_of {ds : List D} (h : sizesOk ds = true) : ∀ x ∈ ds, x.fits63 := by
  intro x hx
  unfold sizesOk at h
  rw [List.all_eq_true] at h
  have q := h x hx
  have b : ∀ n : Nat, n ≤ LL → (n : Int) < 2 ^ 63 := fun n hn => by
    have h1 : n < 2 ^ 63 := Nat.lt_of_le_of_lt hn (by decide)
    omega
  cases x with
  | str y => simp only [PyData.fits63]; exact b _ (of_decide_eq_true q)
  | list y => simp only [PyData.fits63]; exact b _ (of_decide_eq_true q)
  | tuple y => simp only [PyData.fits63]; exact b _ (of_decide_eq_true q)
  | _ => simp only [PyData.fits63]
theorem plain_all : ∀ ds : List D, PyData.canLayAll0 ds = true → PyData.plainAll ds = true
  | [], _ => rfl
  | d :: ds, h => by
    have c' : d.canLay0 = true ∧ PyData.canLayAll0 ds = true := by simpa [PyData.canLayAll0] using h
    show (d.plain && PyData.plainAll ds) = true
    rw [PyData.plain_of_canLay0 d c'.1, plain_all ds c'.2]
    rfl
theorem cm_anyD {f : List D → Bool} {g : List D → Option D} (hg0 : ∀ as, g as = (arg1 as).bind fun ds => if plainOk ds = true then some (.bool (f ds)) else none) : CM K (rAnyD K f) g := by
  intro F H vs as d e rs hg Q q
  rw [hg0] at hg
  obtain ⟨ds, h1, hg⟩ := Option.bind_eq_some_iff.mp hg
  split at hg
  · rename_i hp
    unfold plainOk at hp
    rw [Bool.and_eq_true] at hp
    injection hg with hg; subst hg
    obtain ⟨k, a, us, rfl, h2, h3⟩ := arg1_of rs e h1
    exact ⟨_, ds, rfl, ⟨k, a, us, rfl, h2, (h3.up e).dp hp.1⟩, plain_all ds hp.1, fits_of hp.2, q _ F H (.refl e) (.bl _)⟩
  · cases hg
theorem cm_any : CM K (rAnyD K fun ds => ds.any PyData.truthy) anyD := cm_anyD fun _ => rfl
theorem cm_all : CM K (rAnyD K fun ds => ds.all PyData.truthy) allD := cm_anyD fun _ => rfl
def alikeOk (ds : List D) : Bool := (ds.all fun x => (ds.all fun y => PySem.W.alike x y) && !isNone x) && (PyData.canLayAll0 ds && decide (PyData.depthAll ds ≤ 60))
def mmD (f : D → List D → D) (as : List D) : Option D := (arg1 as).bind fun ds => match ds with
  | [] => none
  | d :: ds => if alikeOk (d :: ds) = true then some (f d ds) else none
def minDD : List D → Option D := mmD PySem.W.minD
def maxDD : List D → Option D := mmD PySem.W.maxD
theorem cm_mm {f : D → List D → D} : CM K (rMinMax K f) (mmD f) := by
  intro F H vs as d e rs hg Q q
  obtain ⟨ds, h1, hg⟩ := Option.bind_eq_some_iff.mp hg
  split at hg
  · cases hg
  · rename_i x xs
    split at hg
    · rename_i ha
      unfold alikeOk at ha
      simp only [Bool.and_eq_true, List.all_eq_true, decide_eq_true_eq] at ha
      obtain ⟨h2, h3, h4⟩ := ha
      injection hg with hg; subst hg
      obtain ⟨k, a, us, rfl, h5, h6⟩ := arg1_of rs e h1
      refine ⟨_, x, xs, rfl, k, a, us, rfl, h5, (h6.up e).dp h3, ⟨fun p hp r hr => (h2 p hp).1 r hr, fun p hp z => ?_⟩, h4, fun i v y hv hy he => ?_⟩
      · have := (h2 p hp).2
        rw [z] at this
        simp [isNone] at this
      · obtain ⟨v', h7, h8⟩ := h6.get hy
        rw [hv] at h7
        cases h7
        rw [← he] at q
        exact q v F H (.refl e) h8
    · cases hg
/-- sum of a list of ints -/
def intsOf : List D → Option (List Int)
  | [] => some []
  | .int i :: ds => (intsOf ds).map (i :: ·)
  | _ :: _ => none
theorem ints_of {F : Hp} : ∀ {vs : List V} {ds : List D} {ns : List Int}, RpAll K F vs ds → intsOf ds = some ns → vs = ns.map V.int
  | _, [], _, r, h => by cases h; cases r; rfl
  | _, .int i :: ds, ns, r, h => by
    obtain ⟨ms, h1, rfl⟩ := Option.map_eq_some_iff.mp h
    cases r with | cons a t => cases a; rw [ints_of t h1]; rfl
  | _, .none :: _, _, _, h => by cases h
  | _, .bool _ :: _, _, _, h => by cases h
  | _, .str _ :: _, _, _, h => by cases h
  | _, .list _ :: _, _, _, h => by cases h
  | _, .tuple _ :: _, _, _, h => by cases h
  | _, .dict _ :: _, _, _, h => by cases h
def sumD : List D → Option D
  | [.list ds] => (intsOf ds).map fun ns => .int ns.sum
  | _ => none
theorem cm_sum : CM K (rSum K) sumD := by
  intro F H vs as d e rs hg Q q
  unfold sumD at hg
  split at hg
  · obtain ⟨ns, h1, rfl⟩ := Option.map_eq_some_iff.mp hg
    obtain ⟨v, rfl, r⟩ := rs.one
    obtain ⟨a, us, rfl, h2, h3⟩ := r.list e
    rw [ints_of h3 h1] at h2
    exact ⟨a, ns, rfl, SqL.of h2, q _ F H (.refl e) (.int _)⟩
  · cases hg
/-! ### items, slices, in -/
def ixD : D → D → Option D
  | .list xs, .int i => atI xs i
  | .tuple xs, .int i => atI xs i
  | .str x, .int i => if x.length ≤ LL then (atI x.cps.toList i).map fun c => .str ⟨#[c]⟩ else none
  | _, _ => none
theorem at_rp {F : Hp} {vs : List V} {ds : List D} {i : Int} {d : D} (r : RpAll K F vs ds) (h : atI ds i = some d) : ∃ v, atI vs i = some v ∧ Rp K F v d := by
  unfold atI at h ⊢
  rw [r.length]
  obtain ⟨j, h1, h⟩ := Option.bind_eq_some_iff.mp h
  rw [h1]
  exact r.get h
theorem om_ix : OpM K (rIx K) ixD := by
  intro F H x y a b d e rx ry hg Q q
  unfold ixD at hg
  split at hg
  · obtain ⟨p, vs, rfl, h1, h2⟩ := rx.list e
    obtain ⟨v, h3, h4⟩ := at_rp h2 hg
    exact .inl ⟨p, vs, _, v, rfl, ry.int, SqL.of h1, h3, q v F H (.refl e) h4⟩
  · obtain ⟨p, vs, rfl, h1, h2⟩ := rx.tuple e
    obtain ⟨v, h3, h4⟩ := at_rp h2 hg
    exact .inr (.inl ⟨p, vs, _, v, rfl, ry.int, h1, h3, q v F H (.refl e) h4⟩)
  · split at hg
    · obtain ⟨c, h1, rfl⟩ := Option.map_eq_some_iff.mp hg
      exact .inr (.inr ⟨_, _, c, rx.str, ry.int, by rw [ll_line]; assumption, h1, q _ F H (.refl e) (.str _)⟩)
    · cases hg
  · cases hg
/-- data that is asked in any way of == -/
def rInT (K : PySem.W.Frag) (neg : Bool) : R2 := fun x y H Q => ∃ d ds, Dp K H x d ∧ (Dp K H y (.list ds) ∨ Dp K H y (.tuple ds)) ∧ SeqAt.shaped d = true ∧ PyData.canLayAll0 ds = true ∧ Q (.bl (neg != ds.any fun z => PyData.eqv z d)) H
def inD (a b : D) : Option D := (itemsD b).bind fun ds => if (SeqAt.shaped a && PyData.canLayAll0 ds) = true then some (.bool (ds.any fun z => PyData.eqv z a)) else none
def notInD (a b : D) : Option D := (itemsD b).bind fun ds => if (SeqAt.shaped a && PyData.canLayAll0 ds) = true then some (.bool (!ds.any fun z => PyData.eqv z a)) else none
end
section
variable {X : Cx}
theorem op_inT (hu : X.A.units + 65 < cLine) : OpR X (compareOp .In) (rInT X.K false) := by
  intro pins s σ H x y v u Q I rx ry h
  obtain ⟨d, ds, hd, he, sd, se, q⟩ := h
  have hdep := SeqAt.depth_of_shaped sd
  obtain ⟨as, r1⟩ := Dp.reads I d x v hd rx
  rw [show (false != ds.any fun z => PyData.eqv z d) = ds.any fun z => PyData.eqv z d by cases (ds.any fun z => PyData.eqv z d) <;> rfl] at q
  rcases he with he | he
  · obtain ⟨bs, r2⟩ := Dp.reads I _ y u he ry
    exact SeqAt.in_list_reads r2 r1 se (SeqAt.canLay_of_shaped sd) (by omega) ⟨.bl _, H, I, rfl, q⟩
  · obtain ⟨bs, r2⟩ := Dp.reads I _ y u he ry
    exact SeqAt.in_tuple_reads r2 r1 se (SeqAt.canLay_of_shaped sd) (by omega) ⟨.bl _, H, I, rfl, q⟩
theorem op_notInT (hu : X.A.units + 65 < cLine) : OpR X (compareOp .NotIn) (rInT X.K true) := by
  intro pins s σ H x y v u Q I rx ry h
  obtain ⟨d, ds, hd, he, sd, se, q⟩ := h
  have hdep := SeqAt.depth_of_shaped sd
  obtain ⟨as, r1⟩ := Dp.reads I d x v hd rx
  rw [show (true != ds.any fun z => PyData.eqv z d) = !ds.any fun z => PyData.eqv z d by cases (ds.any fun z => PyData.eqv z d) <;> rfl] at q
  rcases he with he | he
  · obtain ⟨bs, r2⟩ := Dp.reads I _ y u he ry
    exact SeqAt.notIn_list_reads r2 r1 se (SeqAt.canLay_of_shaped sd) (by omega) ⟨.bl _, H, I, rfl, q⟩
  · obtain ⟨bs, r2⟩ := Dp.reads I _ y u he ry
    exact SeqAt.notIn_tuple_reads r2 r1 se (SeqAt.canLay_of_shaped sd) (by omega) ⟨.bl _, H, I, rfl, q⟩
end
section
variable {K : PySem.W.Frag}
theorem seq_dp {F H : Hp} {y : V} {b : D} {ds : List D} (ry : Tr K F H y b) (e : Same F H) (h : itemsD b = some ds) (c : PyData.canLayAll0 ds = true) : Dp K H y (.list ds) ∨ Dp K H y (.tuple ds) := by
  cases b with
  | list xs => cases h; exact .inl ((ry.rp e).dp (by simpa [PyData.canLay0] using c))
  | tuple xs => cases h; exact .inr ((ry.rp e).dp (by simpa [PyData.canLay0] using c))
  | _ => cases h
theorem om_in : OpM K (rInT K false) inD := by
  intro F H x y a b d e rx ry hg Q q
  obtain ⟨ds, h1, hg⟩ := Option.bind_eq_some_iff.mp hg
  split at hg
  · rename_i hp
    rw [Bool.and_eq_true] at hp
    injection hg with hg; subst hg
    refine ⟨a, ds, (rx.rp e).dp (SeqAt.canLay_of_shaped hp.1), seq_dp ry e h1 hp.2, hp.1, hp.2, ?_⟩
    rw [show (false != ds.any fun z => PyData.eqv z a) = ds.any fun z => PyData.eqv z a by cases (ds.any fun z => PyData.eqv z a) <;> rfl]
    exact q _ F H (.refl e) (.bl _)
  · cases hg
theorem om_notIn : OpM K (rInT K true) notInD := by
  intro F H x y a b d e rx ry hg Q q
  obtain ⟨ds, h1, hg⟩ := Option.bind_eq_some_iff.mp hg
  split at hg
  · rename_i hp
    rw [Bool.and_eq_true] at hp
    injection hg with hg; subst hg
    refine ⟨a, ds, (rx.rp e).dp (SeqAt.canLay_of_shaped hp.1), seq_dp ry e h1 hp.2, hp.1, hp.2, ?_⟩
    rw [show (true != ds.any fun z => PyData.eqv z a) = !ds.any fun z => PyData.eqv z a by cases (ds.any fun z => PyData.eqv z a) <;> rfl]
    exact q _ F H (.refl e) (.bl _)
  · cases hg
/-- a slice's part -/
def partD : Option D → Option (Option Int)
  | none => some none
  | some (.int i) => some (some i)
  | _ => none
def cutD {α : Type} (xs : List α) (lo hi : Option Int) : List α := (xs.drop (HT.sIx xs.length 0 lo)).take (HT.sIx xs.length xs.length hi - HT.sIx xs.length 0 lo)
def slD (d : D) (lo hi : Option Int) : Option D := match d with
  | .list xs => some (.list (cutD xs lo hi))
  | .tuple xs => some (.tuple (cutD xs lo hi))
  | _ => none
def tPO (K : PySem.W.Frag) (R : ORel) (m : Ev → Option (Option Int)) : TO := fun σ H Q => ∃ B F w ρ o, WF K R B F w ρ σ H ∧ m ρ = some o ∧ ∀ F' H', Ext F H F' H' → Q o H'
theorem cut_rp {F : Hp} {vs : List V} {ds : List D} (lo hi : Option Int) (r : RpAll K F vs ds) : RpAll K F (cutV vs lo hi) (cutD ds lo hi) := by
  unfold cutV cutD
  rw [r.length]
  exact (r.drop _).take _
def rSlB (K : PySem.W.Frag) : V → Option Int → Option Int → Hp → VK → Prop := fun x lo hi H Q => rSlL K x lo hi H Q ∨ rSlA K x lo hi H Q
theorem whole_cut {ds : List D} {lo hi : Option Int} (h : HT.sIx ds.length 0 lo = 0 ∧ HT.sIx ds.length ds.length hi = ds.length) : cutD ds lo hi = ds := by
  unfold cutD
  rw [h.1, h.2, List.drop_zero, Nat.sub_zero, List.take_length]
theorem om_sl {F H : Hp} {x : V} {a d : D} {lo hi : Option Int} (e : Same F H) (rx : Tr K F H x a) (hg : slD a lo hi = some d) {Q : VK} (q : ∀ v F' H', Ext F H F' H' → Rp K F' v d → Q v H') : rSlB K x lo hi H Q := by
  unfold slD at hg
  split at hg
  · injection hg with hg; subst hg
    obtain ⟨p, vs, rfl, h1, h2⟩ := rx.list e
    exact .inl ⟨p, vs, rfl, SqL.of h1, fun l n => lst_new (F' := F) (H' := H) e (cut_rp lo hi h2) q n⟩
  · injection hg with hg; subst hg
    have rf := rx.tupF
    obtain ⟨p, vs, rfl, h1, h2⟩ := rx.tuple e
    refine .inr ⟨p, vs, rfl, h1, fun hw => ?_, fun _ l n => tup_new (F' := F) (H' := H) e (cut_rp lo hi h2) q n⟩
    rw [h2.length] at hw
    rw [whole_cut hw] at q
    exact q _ F H (.refl e) rf
  · cases hg
end
section
variable {X : Cx} {R : ORel} {e c tg iter : Expr} {lo hi : Option Expr} {m me : Ev → Option D} {ml mh : Ev → Option (Option Int)} {pos p p2 : Pos}
theorem sl_B : SlR X (rSlB X.K) := sl_list.or sl_tupA
theorem po_noneM : PO X none (tPO X.K R fun _ => some none) := ⟨fun pins s σ H Q I ⟨B, F, w, ρ, o, W, h, q⟩ => by
  cases h
  exact po_none.run pins s σ H Q I (q F H (.refl W.fh))⟩
theorem po_someM (h : PE X e (tF X.K R m)) : PO X (some e) (tPO X.K R fun ρ => (m ρ).bind fun d => partD (some d)) := ⟨fun pins s σ H Q I ⟨B, F, w, ρ, o, W, hm, q⟩ => by
  obtain ⟨d, h1, h2⟩ := Option.bind_eq_some_iff.mp hm
  refine (po_some h).run pins s σ H Q I ⟨B, F, w, ρ, d, W, h1, fun v F' H' E r => ?_⟩
  cases d <;> simp only [partD] at h2 <;> try (cases h2; done)
  injection h2 with h2; subst h2
  cases r
  exact ⟨_, rfl, q F' H' E⟩⟩
def mSl (m : Ev → Option D) (ml mh : Ev → Option (Option Int)) : Ev → Option D := fun ρ => (m ρ).bind fun d => (ml ρ).bind fun l => (mh ρ).bind fun h => slD d l h
theorem pf_slice (he : PE X e (tT X.K R m)) (hl : PO X lo (tPO X.K R ml)) (hu : PO X hi (tPO X.K R mh)) : PE X (.Subscript e (.Slice lo hi none p2) pos) (tF X.K R (mSl m ml mh)) := (pe_slice sl_B he hl hu).imp fun σ H Q ⟨B, F, w, ρ, d, W, h, q⟩ => by
  obtain ⟨x, h1, h⟩ := Option.bind_eq_some_iff.mp h
  obtain ⟨l, h2, h⟩ := Option.bind_eq_some_iff.mp h
  obtain ⟨u, h3, h⟩ := Option.bind_eq_some_iff.mp h
  refine ⟨B, F, w, ρ, x, W, h1, fun v F1 H1 E1 r1 => ?_⟩
  refine ⟨B, F1, w, ρ, l, W.ext E1, h2, fun F2 H2 E2 => ?_⟩
  refine ⟨B, F2, w, ρ, u, (W.ext E1).ext E2, h3, fun F3 H3 E3 => ?_⟩
  exact om_sl E3.fh ((r1.up E2).up E3) h fun z F4 H4 E4 r4 => q z F4 H4 (((E1.trans E2).trans E3).trans E4) r4

/-! ### isinstance -/
inductive Kd where | int | bool | tuple | list | str
def Kd.name : Kd → String
  | .int => "int" | .bool => "bool" | .tuple => "tuple" | .list => "list" | .str => "str"
def isKd : Kd → D → Option D
  | .int, .int _ => some (.bool true)
  | .int, .bool _ => some (.bool true)
  | .bool, .bool _ => some (.bool true)
  | .tuple, .tuple _ => some (.bool true)
  | .list, .list _ => some (.bool true)
  | .str, .str _ => some (.bool true)
  | _, .dict _ => none
  | _, _ => some (.bool false)
def tyName : D → String
  | .none => "NoneType" | .bool _ => "bool" | .int _ => "int" | .str _ => "str" | .list _ => "list" | .tuple _ => "tuple" | .dict _ => "dict"
theorem ty_of {K : PySem.W.Frag} {F H : Hp} {x : V} {d : D} (r : Tr K F H x d) (e : Same F H) (h : ∀ z, d ≠ .dict z) : TyX K H x (.type (tyName d)) := by
  cases d with
  | none => rw [r.non]; exact .base .non
  | bool b => rw [r.bl]; exact .base (.bl b)
  | int i => rw [r.int]; exact .base (.int i)
  | str s => rw [r.str]; exact .base (.str s)
  | list xs => obtain ⟨a, vs, rfl, h1, _⟩ := r.list e; exact .base (.lst h1)
  | tuple xs =>
    obtain ⟨a, vs, rfl, h1, _⟩ := r.tuple e
    rcases h1 with (h1 | ⟨o, h1⟩) | ⟨o, its, n, h1, h2, _⟩
    · exact .base (.tup h1)
    · exact .fTuple h1
    · exact .kTuple h1 h2
  | dict z => exact absurd rfl (h z)
theorem kit_all : ∀ (k : Kd) (d : D) (b : Bool), isKd k d = some (.bool b) → kitB (tyName d) k.name = some b := by
  intro k d b h
  cases k <;> cases d <;> simp only [isKd] at h <;> (try (cases h; done)) <;> (injection h with h; injection h with h; subst h) <;> simp only [tyName, Kd.name] <;> decide +kernel
def mIsi (k : Kd) (m : Ev → Option D) : Ev → Option D := fun ρ => (m ρ).bind (isKd k)
theorem isKd_bool {k : Kd} {d x : D} (h : isKd k d = some x) : ∃ b, x = .bool b ∧ ∀ z, d ≠ .dict z := by
  cases k <;> cases d <;> simp only [isKd] at h <;> (try (cases h; done)) <;> (injection h with h; subst h; exact ⟨_, rfl, fun z q => nomatch q⟩)
theorem pf_isi (k : Kd) {n : Str} {pn : Pos} (ha : PE X e (tT X.K R m)) (hg : Gl X "isinstance") (hm : X.mg "isinstance" = none) (hg2 : Gl X n) (hm2 : X.mg n = none) (hv : bootBuiltins n = some (.type k.name)) (hnn : n ≠ "__name__" := by decide) (hnd : (n == ("__debug__" : Str)) = false := by decide)
    (he : starEach (e :: [.Name n pn]) X.env = (false, eval e X.env) :: starEach [.Name n pn] X.env := by rfl) (he2 : starEach [.Name n pn] X.env = (false, eval (.Name n pn) X.env) :: starEach [] X.env := by rfl) (hpl : (backTo pos (starEach [.Name n pn] X.env)).any (·.1) = false := by rfl) :
    PE X (.Call (.Name "isinstance" p) [e, .Name n pn] [] pos) (tF X.K R (mIsi k m)) :=
  (pe_callB call_isi hg hm (by decide +kernel : bootBuiltins "isinstance" = some (.builtin "isinstance")) (pa_cons ha (pa_cons (pe_bltn (v := .ty k.name) hg2 hm2 hv rfl hnn hnd) pa_nil he2) he) (by decide) (by decide) he hpl).imp fun σ H Q ⟨B, F, w, ρ, d, W, h, q⟩ => by
    obtain ⟨x, h1, h⟩ := Option.bind_eq_some_iff.mp h
    obtain ⟨b, rfl, hnd⟩ := isKd_bool h
    refine ⟨B, F, w, ρ, x, W, h1, fun v F1 H1 E1 r1 => ?_⟩
    exact ⟨v, _, _, _, b, rfl, .ty _, ty_of r1 E1.fh hnd, kit_ty (kit_all k x b h), q _ F1 H1 E1 (.bl b)⟩
end
end Mi

end
section
set_option maxHeartbeats 2000000
open PySem PySem.Spec PyProof.Rows
namespace Mi
open L2
section
variable {X : Cx} {R : ORel} {e a b c tg iter : Expr} {es : List Expr} {m : Ev → Option D} {ma mb mc : Ev → Option (D × Ev)} {pos p tpos : Pos}
/-! ### lifting -/
def mE {α : Type} (m : Ev → Option α) : Ev → Option (α × Ev) := fun ρ => (m ρ).map fun d => (d, ρ)
theorem ef (h : PE X e (tF X.K R m)) : PE X e (tE X.K R (mE m)) := h.imp fun σ H Q ⟨B, F, w, ρ, d, ρ', W, h, q⟩ => by
  obtain ⟨x, h1, h⟩ := Option.map_eq_some_iff.mp h
  cases h
  exact ⟨B, F, w, ρ, d, W, h1, fun v F' H' E r => q v F' w H' (W.ext E) E.exE r⟩
theorem eb {t : Ev → Option Bool} (h : PT X e (tB X.K R t)) : PT X e (tBE X.K R (mE t)) := h.imp fun σ H Q ⟨B, F, w, ρ, d, ρ', W, h, q⟩ => by
  obtain ⟨x, h1, h⟩ := Option.map_eq_some_iff.mp h
  cases h
  exact ⟨B, F, w, ρ, d, W, h1, fun F' H' E => q F' w H' (W.ext E) E.exE⟩
theorem ea {n : Ev → Option (List D)} (h : PA X es (tAF X.K R n)) : PA X es (tAE X.K R (mE n)) := h.imp fun σ H Q ⟨B, F, w, ρ, d, ρ', W, h, q⟩ => by
  obtain ⟨x, h1, h⟩ := Option.map_eq_some_iff.mp h
  cases h
  exact ⟨B, F, w, ρ, d, W, h1, fun v F' H' E r => q v F' w H' (W.ext E) E.exE r⟩
/-! ### an own list is let stand still when it is handed on -/
def takeF (i : Nat) : Ev → Option (D × Ev) := fun ρ => match ρ[i]? with
  | some (.fr d) => some (d, ρ)
  | some (.ow (.list ds)) => some (.list ds, ρ.set i (.fr (.list ds)))
  | _ => none
theorem WF.take {K : PySem.W.Frag} {B : Bs} {F H : Hp} {w : Addr → Option Nat} {ρ ρ' : Ev} {σ : St} {i : Nat} {d : D} (W : WF K R B F w ρ σ H) (hs : i ≠ 0) (h : takeF i ρ = some (d, ρ')) : ∃ v F' w', σ[i]? = some (some v) ∧ WF K R B F' w' ρ' σ H ∧ ExE F w H F' w' H ∧ Rp K F' v d := by
  unfold takeF at h
  split at h
  · rename_i e he
    cases h
    obtain ⟨v, h1, h2⟩ := W.sl i _ he
    exact ⟨v, F, w, h1, W, .refl, h2⟩
  · rename_i ds he
    cases h
    obtain ⟨v, h1, h2⟩ := W.sl i _ he
    rcases h2 with ⟨a, vs, es, rfl, e2, ha, h3, h4⟩ | ⟨_, _, _, _, e2, _⟩
    · cases e2
      obtain ⟨f1, f2, f3⟩ := W.wf a i ha
      have hb : B.H a = none := f3.resolve_right (fun z => hs z.2)
      have ff : Same F (upd F a (.lst vs)) := fun b u e => by rw [upd_ne (ne_of_none e f1)]; exact e
      have r : Rp K (upd F a (.lst vs)) (.ref a) (.list ds) := .lst upd_same (h4.up ff)
      have hil : i < ρ.length := (List.getElem?_eq_some_iff.mp he).1
      refine ⟨.ref a, upd F a (.lst vs), fun b => if b = a then none else w b, h1, ?_, ⟨ff, fun b o h _ => h, fun b h => h, fun b h => ?_, fun b h => ?_⟩, r⟩
      · refine ⟨fun b u e => ?_, W.f0.trans ff, fun b e => ?_, fun b j e => ?_, W.keep, W.dom, by rw [List.length_set]; exact W.len, fun j s e => ?_⟩
        · by_cases q : b = a
          · subst q; rw [upd_same] at e; cases e; exact h3
          · rw [upd_ne q] at e; exact W.fh b u e
        · by_cases q : b = a
          · subst q; exact .inr hb
          · rw [upd_ne q] at e; exact W.fn b e
        · by_cases q : b = a
          · rw [if_pos q] at e; cases e
          · rw [if_neg q] at e
            rw [upd_ne q]; exact W.wf b j e
        · rcases getElem?_set_cases e with ⟨rfl, rfl, _⟩ | ⟨hne, e1⟩
          · exact ⟨_, h1, r⟩
          · refine (W.sl j s e1).imp fun v z => (z.up ff fun _ _ => rfl).wide fun b hb => ?_
            show (if b = a then none else w b) = some j
            rw [if_neg (fun q => by rw [q, ha] at hb; exact hne (Option.some.inj hb).symm)]; exact hb
      · by_cases q : b = a
        · subst q; exact .inr (.inl (by rw [ha]; exact fun z => nomatch z))
        · rw [upd_ne q] at h; exact .inl h
      · by_cases q : b = a
        · rw [if_pos q] at h; exact absurd rfl h
        · rw [if_neg q] at h; exact .inl h
    · cases e2
  · cases h
/-! ### operators -/
def m2E (g : D → D → Option D) (ma mb : Ev → Option (D × Ev)) : Ev → Option (D × Ev) := fun ρ => (ma ρ).bind fun x => (mb x.2).bind fun y => (g x.1 y.1).map fun z => (z, y.2)
theorem tr_opE {K : PySem.W.Frag} {r : R2} {g : D → D → Option D} {ta tb : TE} (hm : OpM K r g) (ha : ∀ σ H Q, tE K R ma σ H Q → ta σ H Q) (hb : ∀ σ H Q, tE K R mb σ H Q → tb σ H Q) :
    ∀ σ H Q, tE K R (m2E g ma mb) σ H Q → tOp r ta tb σ H Q := by
  intro σ H Q ⟨B, F, w, ρ, d, ρ', W, h, q⟩
  obtain ⟨⟨x, ρ1⟩, h1, h⟩ := Option.bind_eq_some_iff.mp h
  obtain ⟨⟨y, ρ2⟩, h2, h⟩ := Option.bind_eq_some_iff.mp h
  obtain ⟨z, h3, h⟩ := Option.map_eq_some_iff.mp h
  cases h
  refine ha _ _ _ ⟨B, F, w, ρ, x, ρ1, W, h1, fun v F1 w1 H1 W1 E1 r1 => ?_⟩
  refine hb _ _ _ ⟨B, F1, w1, ρ1, y, ρ2, W1, h2, fun u F2 w2 H2 W2 E2 r2 => ?_⟩
  exact hm F2 H2 v u x y d W2.fh (.inl (r1.up E2.ff)) (.inl r2) h3 _ fun t F3 H3 E3 r3 => q t F3 w2 H3 (W2.ext E3) ((E1.trans E2).trans E3.exE) r3
theorem e_bin {op : Operator} {r : R2} {g : D → D → Option D} (ho : OpR X (binaryOp op) r) (hm : OpM X.K r g) (ha : PE X a (tE X.K R ma)) (hb : PE X b (tE X.K R mb)) : PE X (.BinOp a op b pos) (tE X.K R (m2E g ma mb)) :=
  (pe_op ho ha hb).imp (tr_opE hm (fun _ _ _ h => h) fun _ _ _ h => h)
theorem e_cmp {op : CmpOp} {r : R2} {g : D → D → Option D} (ho : OpR X (compareOp op) r) (hm : OpM X.K r g) (ha : PE X a (tE X.K R ma)) (hb : PE X b (tE X.K R mb)) (hk : behindInMarks op b = false) : PE X (.Compare a [op] [b] pos) (tE X.K R (m2E g ma mb)) :=
  (pe_cmpR ho ha hb hk).imp (tr_opE hm (fun _ _ _ h => h) fun _ _ _ h => h)
theorem e_ix {r : R2} {g : D → D → Option D} (ho : IxR X r) (hm : OpM X.K r g) (ha : PE X a (tE X.K R ma)) (hb : PE X b (tE X.K R mb)) (hs : PlainIx b := by intro _ _; rfl) : PE X (.Subscript a b pos) (tE X.K R (m2E g ma mb)) :=
  (pe_ix ho ha hb hs).imp (tr_opE hm (fun _ _ _ h => h) fun _ _ _ h => h)
def m1E (g : D → Option D) (m : Ev → Option (D × Ev)) : Ev → Option (D × Ev) := fun ρ => (m ρ).bind fun x => (g x.1).map fun z => (z, x.2)
theorem e_neg (ha : PE X a (tE X.K R ma)) : PE X (.UnaryOp .USub a pos) (tE X.K R (m1E negD ma)) := (pe_un un_neg ha).imp fun σ H Q ⟨B, F, w, ρ, d, ρ', W, h, q⟩ => by
  obtain ⟨⟨x, ρ1⟩, h1, h⟩ := Option.bind_eq_some_iff.mp h
  obtain ⟨z, h2, h⟩ := Option.map_eq_some_iff.mp h
  cases h
  refine ⟨B, F, w, ρ, x, ρ1, W, h1, fun v F1 w1 H1 W1 E1 r1 => ?_⟩
  cases x <;> simp only [negD] at h2 <;> try (cases h2; done)
  injection h2 with h2; subst h2
  cases r1
  exact ⟨_, rfl, q _ F1 w1 H1 W1 E1 (.int _)⟩
def mIfE {α : Type} (t : Ev → Option (Bool × Ev)) (ma mb : Ev → Option (α × Ev)) : Ev → Option (α × Ev) := fun ρ => (t ρ).bind fun c => if c.1 = true then ma c.2 else mb c.2
theorem e_if {t : Ev → Option (Bool × Ev)} (hc : PT X c (tBE X.K R t)) (ha : PE X a (tE X.K R ma)) (hb : PE X b (tE X.K R mb)) : PE X (.IfExp c a b pos) (tE X.K R (mIfE t ma mb)) := (pe_ifExp hc ha hb).imp fun σ H Q ⟨B, F, w, ρ, d, ρ', W, h, q⟩ => by
  obtain ⟨⟨x, ρ1⟩, h1, h⟩ := Option.bind_eq_some_iff.mp h
  refine ⟨B, F, w, ρ, x, ρ1, W, h1, fun F1 w1 H1 W1 E1 => ?_⟩
  cases x with
  | true => exact iteT ⟨B, F1, w1, ρ1, d, ρ', W1, h, fun v F2 w2 H2 W2 E2 r2 => q v F2 w2 H2 W2 (E1.trans E2) r2⟩
  | false => exact iteF ⟨B, F1, w1, ρ1, d, ρ', W1, h, fun v F2 w2 H2 W2 E2 r2 => q v F2 w2 H2 W2 (E1.trans E2) r2⟩
/-! ### tests -/
def mTruE (m : Ev → Option (D × Ev)) : Ev → Option (Bool × Ev) := fun ρ => (m ρ).bind fun x => (truthD x.1).map fun z => (z, x.2)
theorem eb_tru (ha : PE X a (tE X.K R ma)) (he : ∀ whole, isTrue a X.env whole = (do let v ← whole; standAt a.pos; holding [v] (truthy v)) := by intro _; rfl) : PT X a (tBE X.K R (mTruE ma)) := (pt_truth ha he).imp fun σ H Q ⟨B, F, w, ρ, b, ρ', W, h, q⟩ => by
  obtain ⟨⟨x, ρ1⟩, h1, h⟩ := Option.bind_eq_some_iff.mp h
  obtain ⟨z, h2, h⟩ := Option.map_eq_some_iff.mp h
  cases h
  exact ⟨B, F, w, ρ, x, ρ1, W, h1, fun v F1 w1 H1 W1 E1 r1 => ⟨b, tru_of (.inl r1) W1.fh h2, q F1 w1 H1 W1 E1⟩⟩
def blD : D → Option Bool
  | .bool b => some b
  | _ => none
def mBlE (m : Ev → Option (D × Ev)) : Ev → Option (Bool × Ev) := fun ρ => (m ρ).bind fun x => (blD x.1).map fun z => (z, x.2)
theorem eb_cmp {op : CmpOp} {r : R2} {g : D → D → Option D} (ho : OpR X (compareOp op) r) (hm : OpM X.K r g) (ha : PE X a (tE X.K R ma)) (hb : PE X b (tE X.K R mb)) (hk : behindInMarks op b = false) : PT X (.Compare a [op] [b] pos) (tBE X.K R (mBlE (m2E g ma mb))) :=
  (pt_cmpR ho ha hb hk).imp fun σ H Q ⟨B, F, w, ρ, b, ρ', W, h, q⟩ => by
    obtain ⟨⟨x, ρ1⟩, h1, h⟩ := Option.bind_eq_some_iff.mp h
    obtain ⟨z, h2, h⟩ := Option.map_eq_some_iff.mp h
    cases h
    refine tr_opE hm (fun _ _ _ h => h) (fun _ _ _ h => h) _ _ _ ⟨B, F, w, ρ, x, ρ1, W, h1, fun v F1 w1 H1 W1 E1 r1 => ?_⟩
    cases x <;> simp only [blD] at h2 <;> try (cases h2; done)
    injection h2 with h2; subst h2
    cases r1
    exact ⟨_, rfl, q F1 w1 H1 W1 E1⟩
def mNotBE (t : Ev → Option (Bool × Ev)) : Ev → Option (Bool × Ev) := fun ρ => (t ρ).map fun x => (!x.1, x.2)
theorem eb_not {t : Ev → Option (Bool × Ev)} (ha : PT X a (tBE X.K R t)) : PT X (.UnaryOp .Not a pos) (tBE X.K R (mNotBE t)) := (pt_not ha).imp fun σ H Q ⟨B, F, w, ρ, b, ρ', W, h, q⟩ => by
  obtain ⟨⟨x, ρ1⟩, h1, h⟩ := Option.map_eq_some_iff.mp h
  cases h
  exact ⟨B, F, w, ρ, x, _, W, h1, fun F1 w1 H1 W1 E1 => q F1 w1 H1 W1 E1⟩
structure PWE (X : Cx) (R : ORel) (e : Expr) (t : Ev → Option (Bool × Ev)) : Prop where
  pw : PW X e (tBE X.K R t)
theorem pwe_and1 {t : Ev → Option (Bool × Ev)} (ha : PT X a (tBE X.K R t)) : PWE X R (.BoolOp .And [a] pos) t := ⟨pw_and1 ha⟩
theorem pwe_or1 {t : Ev → Option (Bool × Ev)} (ha : PT X a (tBE X.K R t)) : PWE X R (.BoolOp .Or [a] pos) t := ⟨pw_or1 ha⟩
def mAndBE (t u : Ev → Option (Bool × Ev)) : Ev → Option (Bool × Ev) := fun ρ => (t ρ).bind fun c => if c.1 = true then u c.2 else some (false, c.2)
def mOrBE (t u : Ev → Option (Bool × Ev)) : Ev → Option (Bool × Ev) := fun ρ => (t ρ).bind fun c => if c.1 = true then some (true, c.2) else u c.2
theorem pwe_and {t u : Ev → Option (Bool × Ev)} {rest : List Expr} (ha : PT X a (tBE X.K R t)) (hb : PWE X R (.BoolOp .And (b :: rest) pos) u) : PWE X R (.BoolOp .And (a :: b :: rest) pos) (mAndBE t u) := ⟨(pw_and ha hb.pw).imp fun σ H Q ⟨B, F, w, ρ, d, ρ', W, h, q⟩ => by
  obtain ⟨⟨x, ρ1⟩, h1, h⟩ := Option.bind_eq_some_iff.mp h
  refine ⟨B, F, w, ρ, x, ρ1, W, h1, fun F1 w1 H1 W1 E1 => ?_⟩
  cases x with
  | true => exact iteT ⟨B, F1, w1, ρ1, d, ρ', W1, h, fun F2 w2 H2 W2 E2 => q F2 w2 H2 W2 (E1.trans E2)⟩
  | false => cases h; exact iteF (q F1 w1 H1 W1 E1)⟩
theorem pwe_or {t u : Ev → Option (Bool × Ev)} {rest : List Expr} (ha : PT X a (tBE X.K R t)) (hb : PWE X R (.BoolOp .Or (b :: rest) pos) u) : PWE X R (.BoolOp .Or (a :: b :: rest) pos) (mOrBE t u) := ⟨(pw_or ha hb.pw).imp fun σ H Q ⟨B, F, w, ρ, d, ρ', W, h, q⟩ => by
  obtain ⟨⟨x, ρ1⟩, h1, h⟩ := Option.bind_eq_some_iff.mp h
  refine ⟨B, F, w, ρ, x, ρ1, W, h1, fun F1 w1 H1 W1 E1 => ?_⟩
  cases x with
  | true => cases h; exact iteT (q F1 w1 H1 W1 E1)
  | false => exact iteF ⟨B, F1, w1, ρ1, d, ρ', W1, h, fun F2 w2 H2 W2 E2 => q F2 w2 H2 W2 (E1.trans E2)⟩⟩
theorem PWE.pt {t : Ev → Option (Bool × Ev)} (h : PWE X R e t) : PT X e (tBE X.K R t) := h.pw.pt
/-! ### arguments, displays, calls -/
theorem pae_nil : PA X [] (tAE X.K R fun ρ => some ([], ρ)) := pa_nil.imp fun σ H Q ⟨B, F, w, ρ, d, ρ', W, h, q⟩ => by
  cases h
  exact q [] F w H W .refl .nil
def mConsE (m : Ev → Option (D × Ev)) (n : Ev → Option (List D × Ev)) : Ev → Option (List D × Ev) := fun ρ => (m ρ).bind fun x => (n x.2).map fun y => (x.1 :: y.1, y.2)
theorem pae_cons {n : Ev → Option (List D × Ev)} (ha : PE X e (tE X.K R ma)) (hr : PA X es (tAE X.K R n)) (hs : starEach (e :: es) X.env = (false, eval e X.env) :: starEach es X.env := by rfl) : PA X (e :: es) (tAE X.K R (mConsE ma n)) :=
  (pa_cons ha hr hs).imp fun σ H Q ⟨B, F, w, ρ, ds, ρ', W, h, q⟩ => by
    obtain ⟨⟨x, ρ1⟩, h1, h⟩ := Option.bind_eq_some_iff.mp h
    obtain ⟨⟨xs, ρ2⟩, h2, h⟩ := Option.map_eq_some_iff.mp h
    cases h
    refine ⟨B, F, w, ρ, x, ρ1, W, h1, fun v F1 w1 H1 W1 E1 r1 => ?_⟩
    exact ⟨B, F1, w1, ρ1, xs, _, W1, h2, fun vs F2 w2 H2 W2 E2 r2 => q _ F2 w2 H2 W2 (E1.trans E2) (.cons (r1.up E2.ff) r2)⟩
def mCE {α β : Type} (n : Ev → Option (α × Ev)) (g : α → Option β) : Ev → Option (β × Ev) := fun ρ => (n ρ).bind fun x => (g x.1).map fun z => (z, x.2)
theorem e_tup {n : Ev → Option (List D × Ev)} {x1} (h : PA X es (tAE X.K R n)) : PE X (.Tuple es x1 pos) (tE X.K R (mCE n fun ds => if ds.length ≤ LL then some (.tuple ds) else none)) := (pe_tup h).imp fun σ H Q ⟨B, F, w, ρ, d, ρ', W, h, q⟩ => by
  obtain ⟨⟨ds, ρ1⟩, h1, h⟩ := Option.bind_eq_some_iff.mp h
  obtain ⟨z, h2, h⟩ := Option.map_eq_some_iff.mp h
  cases h
  have h2 : (if ds.length ≤ LL then some (PyData.tuple ds) else none) = some d := h2
  split at h2
  · rename_i hl
    injection h2 with h2; subst h2
    refine ⟨B, F, w, ρ, ds, ρ1, W, h1, fun vs F1 w1 H1 W1 E1 r1 => ⟨by rw [ll_line, r1.length]; exact hl, fun p n => ?_⟩⟩
    exact tup_new (F' := F) (H' := H) W1.fh r1 (fun v F2 H2 E2 r2 => q v F2 w1 H2 (W1.ext E2) (E1.trans E2.exE) r2) n
  · cases h2
theorem e_lst {n : Ev → Option (List D × Ev)} (h : PA X es (tAE X.K R n)) : PE X (.List es pos) (tE X.K R (mCE n fun ds => if ds.length ≤ LL then some (.list ds) else none)) := (pe_lst h).imp fun σ H Q ⟨B, F, w, ρ, d, ρ', W, h, q⟩ => by
  obtain ⟨⟨ds, ρ1⟩, h1, h⟩ := Option.bind_eq_some_iff.mp h
  obtain ⟨z, h2, h⟩ := Option.map_eq_some_iff.mp h
  cases h
  have h2 : (if ds.length ≤ LL then some (PyData.list ds) else none) = some d := h2
  split at h2
  · rename_i hl
    injection h2 with h2; subst h2
    refine ⟨B, F, w, ρ, ds, ρ1, W, h1, fun vs F1 w1 H1 W1 E1 r1 => ⟨by rw [ll_line, r1.length]; exact hl, fun p n => ?_⟩⟩
    exact lst_new (F' := F) (H' := H) W1.fh r1 (fun v F2 H2 E2 r2 => q v F2 w1 H2 (W1.ext E2) (E1.trans E2.exE) r2) n
  · cases h2
theorem tr_of_rp {K : PySem.W.Frag} {F H : Hp} : ∀ {vs : List V} {ds : List D}, RpAll K F vs ds → TrAll K F H vs ds
  | _, _, .nil => .nil
  | _, _, .cons a t => .cons (.inl a) (tr_of_rp t)
theorem e_callB {x : Str} {id : String} {r : List V → Hp → VK → Prop} {g : List D → Option D} {n : Ev → Option (List D × Ev)} (hc : CallR X (.builtin id) r) (hm : CM X.K r g) (hg : Gl X x) (hx : X.mg x = none) (hv : bootBuiltins x = some (.builtin id)) (ha : PA X (e :: es) (tAE X.K R n)) (hn : x ≠ "__name__" := by decide) (hdb : (x == ("__debug__" : Str)) = false := by decide)
    (he : starEach (e :: es) X.env = (false, eval e X.env) :: starEach es X.env := by rfl) (hpl : (backTo pos (starEach es X.env)).any (·.1) = false := by rfl) : PE X (.Call (.Name x p) (e :: es) [] pos) (tE X.K R (mCE n g)) := (pe_callB hc hg hx hv ha hn hdb he hpl).imp fun σ H Q ⟨B, F, w, ρ, d, ρ', W, h, q⟩ => by
  obtain ⟨⟨ds, ρ1⟩, h1, h⟩ := Option.bind_eq_some_iff.mp h
  obtain ⟨z, h2, h⟩ := Option.map_eq_some_iff.mp h
  cases h
  exact ⟨B, F, w, ρ, ds, ρ1, W, h1, fun vs F1 w1 H1 W1 E1 r1 => hm F1 H1 vs ds d W1.fh (tr_of_rp r1) h2 Q fun v F2 H2 E2 r2 => q v F2 w1 H2 (W1.ext E2) (E1.trans E2.exE) r2⟩
theorem e_callTy {x : Str} {T : String} {r : List V → Hp → VK → Prop} {g : List D → Option D} {n : Ev → Option (List D × Ev)} (hc : CallR X (.type T) r) (hm : CM X.K r g) (hg : Gl X x) (hx : X.mg x = none) (hv : bootBuiltins x = some (.type T)) (ha : PA X (e :: es) (tAE X.K R n)) (hn : x ≠ "__name__" := by decide) (hdb : (x == ("__debug__" : Str)) = false := by decide)
    (he : starEach (e :: es) X.env = (false, eval e X.env) :: starEach es X.env := by rfl) (hpl : (backTo pos (starEach es X.env)).any (·.1) = false := by rfl) : PE X (.Call (.Name x p) (e :: es) [] pos) (tE X.K R (mCE n g)) := (pe_callTy hc hg hx hv ha hn hdb he hpl).imp fun σ H Q ⟨B, F, w, ρ, d, ρ', W, h, q⟩ => by
  obtain ⟨⟨ds, ρ1⟩, h1, h⟩ := Option.bind_eq_some_iff.mp h
  obtain ⟨z, h2, h⟩ := Option.map_eq_some_iff.mp h
  cases h
  exact ⟨B, F, w, ρ, ds, ρ1, W, h1, fun vs F1 w1 H1 W1 E1 r1 => hm F1 H1 vs ds d W1.fh (tr_of_rp r1) h2 Q fun v F2 H2 E2 r2 => q v F2 w1 H2 (W1.ext E2) (E1.trans E2.exE) r2⟩
/-- list(..), sorted(..) of what is reckoned: let stand still at once -/
theorem cn_cm {K : PySem.W.Frag} {r : List V → Hp → VK → Prop} {g : List D → Option (List D)} (h : CN K r g) : CM K r fun as => (g as).map .list := fun F H vs as d e rs hg Q q => by
  obtain ⟨ds, h1, rfl⟩ := Option.map_eq_some_iff.mp hg
  refine h F H vs as ds e rs h1 Q fun a us F' H' E nf nh hh r => ?_
  have ff : Same F' (upd F' a (.lst us)) := fun b u e => by rw [upd_ne (ne_of_none e nf)]; exact e
  refine q _ (upd F' a (.lst us)) H' ⟨E.ff.trans ff, fun b u e => ?_, E.hh, fun b e => ?_⟩ (.lst upd_same (r.up ff))
  · by_cases z : b = a
    · subst z; rw [upd_same] at e; cases e; exact hh
    · rw [upd_ne z] at e; exact E.fh b u e
  · by_cases z : b = a
    · subst z; exact .inr nh
    · rw [upd_ne z] at e; exact E.nw b e
section
variable {x : Str} {f : Addr} {fd : FuncData} {ps : List Str} {k : Nat} {g : List D → Option D} {n : Ev → Option (List D × Ev)}
theorem e_call (G : FnOk X.prog X.w X.K X.mg X.base CX0 k f fd ps (spP X.K g)) (hr : Room k X.A) (hg : Gl X x) (hm : X.mg x = some (.ref f)) (hk : PySem.W.keepIn X.K (.ref f) = true) (hb : Binds X.K fd ps []) (ha : PA X (e :: es) (tAE X.K R n))
    (hd : (x == ("__debug__" : Str)) = false := by decide) (he : starEach (e :: es) X.env = (false, eval e X.env) :: starEach es X.env := by rfl) (hpl : (backTo pos (starEach es X.env)).any (·.1) = false := by rfl) : PE X (.Call (.Name x p) (e :: es) [] pos) (tE X.K R (mCE n g)) :=
  (pe_call G hr hg hm hk hb .nil pass0 ha hd he hpl).imp fun σ H Q ⟨B, F, w, ρ, d, ρ', W, h, q⟩ => by
    obtain ⟨⟨ds, ρ1⟩, h1, h⟩ := Option.bind_eq_some_iff.mp h
    obtain ⟨z, h2, h⟩ := Option.map_eq_some_iff.mp h
    cases h
    exact ⟨B, F, w, ρ, ds, ρ1, W, h1, fun vs F1 w1 H1 W1 E1 r1 => ⟨F1, ds, d, W1.fh, by rw [List.append_nil]; exact r1, h2, fun v F2 H2 E2 r2 => q v F2 w1 H2 (W1.ext E2) (E1.trans E2.exE) r2⟩⟩
/-! ### a def that changes the object that it is told first -/
def spIO (K : PySem.W.Frag) (R : ORel) (c : Nat) (g : D → List D → Option (D × D)) : Sp := fun vs H Q _ => ∃ a us F S d0 ds d d1, vs = .ref a :: us ∧ Same F H ∧ RpAll K F us ds ∧ S a ∧ R.rel c d0 F H S a ∧ (∀ b, S b → F b = none ∧ H b ≠ none) ∧ g d0 ds = some (d, d1) ∧
  ∀ v F' H' S', Same F F' → Same F' H' → (∀ b o, H b = some o → ¬ S b → H' b = some o) → (∀ b, H b ≠ none → H' b ≠ none) → (∀ b, F' b ≠ none → F b ≠ none ∨ H b = none) → S' a → R.rel c d1 F' H' S' a → (∀ b, S' b → F' b = none ∧ H' b ≠ none ∧ (S b ∨ H b = none)) → Rp K F' v d → Q v H'
def mIO (i c : Nat) (n : Ev → Option (List D × Ev)) (g : D → List D → Option (D × D)) : Ev → Option (D × Ev) := fun ρ => match ρ[i]? with
  | some (.ob _ _) => (n ρ).bind fun x => match x.2[i]? with
    | some (.ob c' d0) => if c' = c then (g d0 x.1).map fun z => (z.1, x.2.set i (.ob c z.2)) else none
    | _ => none
  | _ => none
open Classical in
theorem WF.io {K : PySem.W.Frag} {B : Bs} {F H F' H' : Hp} {w : Addr → Option Nat} {ρ : Ev} {σ : St} {i c : Nat} {d0 d1 : D} {a : Addr} {S' : Addr → Prop} (W : WF K R B F w ρ σ H) (hi : ρ[i]? = some (.ob c d0)) (hv : σ[i]? = some (some (.ref a)))
    (ff : Same F F') (fh : Same F' H') (hk : ∀ b o, H b = some o → ¬ w b = some i → H' b = some o) (hd : ∀ b, H b ≠ none → H' b ≠ none) (nf : ∀ b, F' b ≠ none → F b ≠ none ∨ H b = none) (sa : S' a) (r : R.rel c d1 F' H' S' a) (hS : ∀ b, S' b → F' b = none ∧ H' b ≠ none ∧ (w b = some i ∨ H b = none)) :
    ∃ w', WF K R B F' w' (ρ.set i (.ob c d1)) σ H' ∧ ExE F w H F' w' H' := by
  have bk : ∀ b, H b = none → B.H b = none := fun b h => by
    cases z : B.H b with
    | none => rfl
    | some o => exact absurd h (W.dom b (by rw [z]; exact fun q => nomatch q))
  refine ⟨fun b => if S' b then some i else if w b = some i then none else w b, ⟨fh, W.f0.trans ff, fun b h => ?_, fun b j h => ?_, fun b ns o h => ?_, fun b h => hd b (W.dom b h), by rw [List.length_set]; exact W.len, fun j s h => ?_⟩, ⟨ff, fun b o h n => hk b o h (by rw [n]; exact fun z => nomatch z), hd, fun b h => (nf b h).imp id .inr, fun b h => ?_⟩⟩
  · rcases nf b h with h | h
    · exact W.fn b h
    · exact .inr (bk b h)
  · by_cases hs : S' b
    · rw [if_pos hs] at h
      cases h
      obtain ⟨h1, h2, h3⟩ := hS b hs
      refine ⟨h1, h2, ?_⟩
      rcases h3 with h3 | h3
      · exact (W.wf b i h3).2.2
      · exact .inl (bk b h3)
    · rw [if_neg hs] at h
      by_cases hw : w b = some i
      · rw [if_pos hw] at h; cases h
      · rw [if_neg hw] at h
        obtain ⟨h1, h2, h3⟩ := W.wf b j h
        refine ⟨?_, hd b h2, h3⟩
        cases z : F' b with
        | none => rfl
        | some o =>
          rcases nf b (by rw [z]; exact fun q => nomatch q) with q | q
          · exact absurd h1 q
          · exact absurd q h2
  · have h1 := W.keep b ns o h
    refine hk b o h1 fun hw => ?_
    rcases (W.wf b i hw).2.2 with q | q
    · rw [h] at q; cases q
    · exact ns q.1
  · rcases getElem?_set_cases h with ⟨rfl, rfl, hl⟩ | ⟨hne, h⟩
    · exact ⟨_, hv, a, rfl, if_pos sa, R.wide r fun b hb => if_pos hb⟩
    · have q := W.sl j s h
      have key : ∀ u, VR K R F H (fun b => w b = some j) u s → VR K R F' H' (fun b => (if S' b then some i else if w b = some i then none else w b) = some j) u s := fun u z => by
        have ns : ∀ b, w b = some j → ¬ S' b ∧ ¬ w b = some i := fun b hb => by
          refine ⟨fun hs => ?_, fun hw => hne (Option.some.inj (hb.symm.trans hw))⟩
          rcases (hS b hs).2.2 with q | q
          · exact hne (Option.some.inj (hb.symm.trans q))
          · exact absurd q (W.wf b j hb).2.1
        refine (z.up ff fun b hb => ?_).wide fun b hb => ?_
        · have h2 := (W.wf b j hb).2.1
          cases q : H b with
          | none => exact absurd q h2
          | some o => exact hk b o q (ns b hb).2
        · rw [if_neg (ns b hb).1, if_neg (ns b hb).2]; exact hb
      exact q.imp key
  · by_cases hs : S' b
    · rcases (hS b hs).2.2 with q | q
      · exact .inl (by rw [q]; exact fun z => nomatch z)
      · exact .inr q
    · rw [if_neg hs] at h
      by_cases hw : w b = some i
      · rw [if_pos hw] at h; exact absurd rfl h
      · rw [if_neg hw] at h; exact .inl h
theorem tr_io {K : PySem.W.Frag} {i c : Nat} {g : D → List D → Option (D × D)} {ta : TA} (ha : ∀ σ H Q, tAE K R n σ H Q → ta σ H Q) : ∀ σ H Q, tE K R (mIO i c n g) σ H Q → tCall (spIO K R c g) [] E0 (tCons (tVar i) ta) σ H Q := fun σ H Q ⟨B, F, w, ρ, d, ρ', W, h, q⟩ => by
  unfold mIO at h
  split at h
  · rename_i c0 d00 h0
    obtain ⟨⟨ds, ρ1⟩, h1, h⟩ := Option.bind_eq_some_iff.mp h
    simp only at h
    split at h
    · rename_i c' d0 h2
      split at h
      · rename_i hc
        subst hc
        obtain ⟨⟨dr, d1⟩, h3, h⟩ := Option.map_eq_some_iff.mp h
        cases h
        obtain ⟨v0, e0, _⟩ := W.sl i _ h0
        refine ⟨v0, e0, ha _ _ _ ⟨B, F, w, ρ, ds, ρ1, W, h1, fun vs F1 w1 H1 W1 E1 r1 => ?_⟩⟩
        obtain ⟨v1, e1, a, rfl, sa, ra⟩ := W1.sl i _ h2
        have ev : v0 = .ref a := Option.some.inj (Option.some.inj (e0.symm.trans e1))
        subst ev
        refine ⟨a, vs, F1, fun b => w1 b = some i, d0, ds, dr, d1, by rw [List.append_nil], W1.fh, r1, sa, ra, fun b hb => ⟨(W1.wf b i hb).1, (W1.wf b i hb).2.1⟩, h3, fun v F2 H2 S2 ff fh hk hd nf s2 r2 hS rv => ?_⟩
        obtain ⟨w2, W2, E2⟩ := W1.io h2 e1 ff fh hk hd nf s2 r2 hS
        exact q v F2 w2 H2 W2 (E1.trans E2) rv
      · cases h
    · cases h
  · cases h
theorem e_io (i c : Nat) {y : Str} {py : Pos} {g : D → List D → Option (D × D)} (G : FnOk X.prog X.w X.K X.mg X.base CX0 k f fd ps (spIO X.K R c g)) (hr : Room k X.A) (hg : Gl X x) (hm : X.mg x = some (.ref f)) (hk : PySem.W.keepIn X.K (.ref f) = true) (hb : Binds X.K fd ps []) (ha : PA X es (tAE X.K R n))
    (hN : X.N[i]? = some y := by rfl) (hv : Vis X.env.scope y := by first | exact Or.inl rfl | exact Or.inr (Or.inl rfl) | exact Or.inr (Or.inr rfl)) (hyd : (y == ("__debug__" : Str)) = false := by decide) (hcd : (y == ("__classdict__" : Str)) = false := by decide)
    (hd : (x == ("__debug__" : Str)) = false := by decide) (he : starEach (.Name y py :: es) X.env = (false, eval (.Name y py) X.env) :: starEach es X.env := by rfl) (hpl : (backTo pos (starEach es X.env)).any (·.1) = false := by rfl) : PE X (.Call (.Name x p) (.Name y py :: es) [] pos) (tE X.K R (mIO i c n g)) :=
  (pe_call G hr hg hm hk hb .nil pass0 (pa_cons (pe_var hN hv hyd hcd) ha he) hd he hpl).imp (tr_io fun _ _ _ h => h)
end
end
/-- how such a def is shown -/
def outIO (R : ORel) (c : Nat) (d0 : D) : Out → Option (D × D)
  | .nx ρ => match (ρ : List Sl)[0]? with
    | some (Sl.ob c' d1) => if c' = c ∧ R.key d1 = R.key d0 then some (.none, d1) else none
    | _ => none
  | .rt d ρ => match (ρ : List Sl)[0]? with
    | some (Sl.ob c' d1) => if c' = c ∧ R.key d1 = R.key d0 then some (d, d1) else none
    | _ => none
  | _ => none
def mFunIO (R : ORel) (c n a : Nat) (m : Ev → Option Out) : D → List D → Option (D × D) := fun d0 ds => if ds.length + 1 = a then (m (.ob c d0 :: startE (n - 1) ds)).bind (outIO R c d0) else none
section
variable {P : Program} {w : World} {K : PySem.W.Frag} {mg : Str → Option Value} {base : Heap} {R : ORel}
open Classical in
theorem WF.startIO {F H : Hp} {S : Addr → Prop} {c n : Nat} {d0 : D} {a : Addr} {us : List V} {ds : List D} (e : Same F H) (r : RpAll K F us ds) (sa : S a) (ra : R.rel c d0 F H S a) (hS : ∀ b, S b → F b = none ∧ H b ≠ none) {N : List Str} (hn : N.length = n + 1) :
    WF K R ⟨F, H, S⟩ F (fun b => if S b then some 0 else none) (.ob c d0 :: startE n ds) (L2.start N (.ref a :: us)) H := by
  have est : L2.start N (.ref a :: us) = some (.ref a) :: (us.map some ++ List.replicate (n - us.length) none) := by
    unfold L2.start
    rw [List.map_cons, List.length_cons, hn, Nat.add_sub_add_right]
    rfl
  rw [est]
  refine ⟨e, Same.refl _, fun b h => .inl h, fun b i h => ?_, fun b _ o h => h, fun b h => h, ?_, fun i s h => ?_⟩
  · by_cases hs : S b
    · rw [if_pos hs] at h
      cases h
      exact ⟨(hS b hs).1, (hS b hs).2, .inr ⟨hs, rfl⟩⟩
    · rw [if_neg hs] at h; cases h
  · unfold startE
    rw [List.length_cons, List.length_cons, List.length_append, List.length_append, List.length_map, List.length_map, List.length_replicate, List.length_replicate, r.length]
  · cases i with
    | zero =>
      simp at h
      subst h
      exact ⟨_, rfl, a, rfl, if_pos sa, R.wide ra fun b hb => if_pos hb⟩
    | succ i =>
      have h : (startE n ds)[i]? = some s := by simpa using h
      unfold startE at h
      by_cases hi : i < ds.length
      · rw [List.getElem?_append_left (by rw [List.length_map]; exact hi), List.getElem?_map] at h
        obtain ⟨d, h1, h⟩ := Option.map_eq_some_iff.mp h
        subst h
        obtain ⟨v, h2, h3⟩ := r.get h1
        refine ⟨v, ?_, h3⟩
        rw [List.getElem?_cons_succ, List.getElem?_append_left (by rw [List.length_map, r.length]; exact hi), List.getElem?_map, h2]
        rfl
      · rw [List.getElem?_append_right (by rw [List.length_map]; omega), List.getElem?_replicate] at h
        split at h
        · cases h; trivial
        · cases h
theorem fn_okIO {x qual : Str} {st : Stmt} {f : Addr} {fd : FuncData} {N ps : List Str} {k c : Nat} {m : Ev → Option Out} (F : Fun K x qual st f fd) (S : FnScope N ps (defScope st))
    (hb : ∀ (cdv : Value) (A : Around) (outer : List Env) (s : Shared) (H : Hp) (E : XK), Room k (A.deeper (envOfC qual (defScope st) s.heap.objs.size f cdv)) → PSs (cxOf CX0 P w K mg base N qual (defScope st) f cdv A outer s H E).nox (defBody st) (tS K R m)) (hN : 1 ≤ N.length := by decide) :
    FnOk P w K mg base CX0 (k + 1) f fd ps (spIO K R c (mFunIO R c N.length ps.length m)) := by
  refine F.ok S (fun vs H Q E h => ?_) (fun cdv A outer s H vs Q E hr h => ?_)
  · obtain ⟨a, us, F', S', d0, ds, d, d1, rfl, e, r, sa, ra, hS, h, _⟩ := h
    unfold mFunIO at h
    split at h
    · rename_i hl
      rw [List.length_cons, r.length]; exact hl
    · cases h
  · obtain ⟨a, us, F', S', d0, ds, d, d1, rfl, e, r, sa, ra, hS, h, q⟩ := h
    unfold mFunIO at h
    split at h
    · rename_i hl
      obtain ⟨o, h1, h⟩ := Option.bind_eq_some_iff.mp h
      refine ⟨_, hb cdv A outer s H E hr, ⟨F', H, S'⟩, F', _, _, o, WF.startIO (n := N.length - 1) e r sa ra hS (by omega), h1, ?_⟩
      have fin : ∀ {F2 : Hp} {w2 : Addr → Option Nat} {ρ2 : Ev} {σ2 : St} {H2 : Hp} {v : V}, WF K R ⟨F', H, S'⟩ F2 w2 ρ2 σ2 H2 → (∃ c' , ρ2[0]? = some (.ob c' d1) ∧ c' = c ∧ R.key d1 = R.key d0) → Rp K F2 v d → Q v H2 := fun {F2 w2 ρ2 σ2 H2 v} W2 ⟨c', h0, hc, hk⟩ rv => by
        subst hc
        obtain ⟨v0, _, a', rfl, sa', ra'⟩ := W2.sl 0 _ h0
        have ea : a' = a := by rw [R.det ra', R.det ra, hk]
        subst ea
        refine q v F2 H2 (fun b => w2 b = some 0) W2.f0 W2.fh (fun b o z ns => W2.keep b ns o z) W2.dom W2.fn sa' ra' (fun b hb => ?_) rv
        obtain ⟨z1, z2, z3⟩ := W2.wf b 0 hb
        exact ⟨z1, z2, z3.symm.imp And.left id⟩
      cases o with
      | nx ρ =>
        simp only [outIO] at h
        split at h
        · rename_i c' d1' h0
          split at h
          · rename_i hk
            cases h
            exact fun F2 w2 σ2 H2 W2 _ => fin W2 ⟨c', h0, hk.1, hk.2⟩ .non
          · cases h
        · cases h
      | rt d' ρ =>
        simp only [outIO] at h
        split at h
        · rename_i c' d1' h0
          split at h
          · rename_i hk
            cases h
            exact fun v F2 w2 σ2 H2 W2 _ r2 => fin W2 ⟨c', h0, hk.1, hk.2⟩ r2
          · cases h
        · cases h
      | bk ρ => cases h
      | ct ρ => cases h
    · cases h
end
end Mi

end
section
set_option maxHeartbeats 2000000
open PySem PySem.Spec PyProof.Rows
namespace Mi
open L2
section
variable {X : Cx} {R : ORel} {e e2 a b c tg iter : Expr} {es : List Expr} {m me : Ev → Option D} {ma mb mc : Ev → Option (D × Ev)} {pos pos' p tpos apos : Pos} {elts : List Expr} {kk : Nat}
theorem e_take (i : Nat) {x : Str} {pos : Pos} (hi : i ≠ 0 := by decide) (hN : X.N[i]? = some x := by rfl) (hv : Vis X.env.scope x := by first | exact Or.inl rfl | exact Or.inr (Or.inl rfl) | exact Or.inr (Or.inr rfl)) (hd : (x == ("__debug__" : Str)) = false := by decide)
    (hcd : (x == ("__classdict__" : Str)) = false := by decide) : PE X (.Name x pos) (tE X.K R (takeF i)) :=
  (pe_var hN hv hd hcd).imp fun σ H Q ⟨B, F, w, ρ, d, ρ', W, h, q⟩ => by
    obtain ⟨v, F', w', h1, W', E, r⟩ := W.take hi h
    exact ⟨v, h1, q v F' w' H W' E r⟩
/-! ### own lists changed -/
theorem frs_wr {K : PySem.W.Frag} {B : Bs} {F H : Hp} {w : Addr → Option Nat} {ρ : Ev} {σ : St} {i : Nat} {a : Addr} {vs us : List V} {ds : List D} (W : WF K R B F w ρ σ H) (hi : i ≠ 0) (ha : w a = some i) (h : H a = some (.lst vs)) (hv : σ[i]? = some (some (.ref a))) (hl : i < ρ.length) (r : RpAll K F us ds) :
    WF K R B F w (ρ.set i (.ow (.list ds))) σ (upd H a (.lst us)) := by
  obtain ⟨f1, f2, f3⟩ := W.wf a i ha
  have hb : B.H a = none := f3.resolve_right (fun z => hi z.2)
  refine ⟨upd_same_ext (u := .lst []) W.fh f1, W.f0, W.fn, fun b j z => ?_, fun b ns o z => ?_, fun b z => ?_, by rw [List.length_set]; exact W.len, fun j s z => ?_⟩
  · obtain ⟨z1, z2, z3⟩ := W.wf b j z
    refine ⟨z1, ?_, z3⟩
    by_cases q : b = a
    · subst q; rw [upd_same]; exact fun z => nomatch z
    · rw [upd_ne q]; exact z2
  · rw [upd_ne (ne_of_none z hb)]; exact W.keep b ns o z
  · by_cases q : b = a
    · subst q; rw [upd_same]; exact fun z => nomatch z
    · rw [upd_ne q]; exact W.dom b z
  · rcases getElem?_set_cases z with ⟨rfl, rfl, _⟩ | ⟨hne, z⟩
    · exact ⟨_, hv, .inl ⟨a, us, ds, rfl, rfl, ha, upd_same, r⟩⟩
    · refine (W.sl j s z).imp fun v q => q.up (Same.refl _) fun b hb' => ?_
      rw [upd_ne (fun q => by rw [q, ha] at hb'; exact hne (Option.some.inj hb').symm)]
def getO (i : Nat) (ρ : Ev) : Option (List D) := match ρ[i]? with
  | some (.ow (.list ds)) => some ds
  | _ => none
theorem WF.own {K : PySem.W.Frag} {B : Bs} {F H : Hp} {w : Addr → Option Nat} {ρ : Ev} {σ : St} {i : Nat} {ds : List D} (W : WF K R B F w ρ σ H) (h : getO i ρ = some ds) : ∃ a vs, σ[i]? = some (some (.ref a)) ∧ w a = some i ∧ H a = some (.lst vs) ∧ RpAll K F vs ds ∧ i < ρ.length := by
  unfold getO at h
  split at h
  · rename_i es he
    cases h
    obtain ⟨v, h1, h2⟩ := W.sl i _ he
    rcases h2 with ⟨a, vs, es, rfl, e2, ha, h3, h4⟩ | ⟨_, _, _, _, e2, _⟩
    · cases e2; exact ⟨a, vs, h1, ha, h3, h4, (List.getElem?_eq_some_iff.mp he).1⟩
    · cases e2
  · cases h
/-- x.append(e), x.extend(e) -/
def mApp (i : Nat) (m : Ev → Option (D × Ev)) : Ev → Option Out := fun ρ => (getO i ρ).bind fun _ => (m ρ).bind fun x => (getO i x.2).bind fun ds => if ds.length < LL then some (.nx (x.2.set i (.ow (.list (ds ++ [x.1]))))) else none
def mExt (i : Nat) (m : Ev → Option (D × Ev)) : Ev → Option Out := fun ρ => (getO i ρ).bind fun _ => (m ρ).bind fun x => (getO i x.2).bind fun ds => match x.1 with
  | .list es => if ds.length + es.length ≤ LL then some (.nx (x.2.set i (.ow (.list (ds ++ es))))) else none
  | .tuple es => if ds.length + es.length ≤ LL then some (.nx (x.2.set i (.ow (.list (ds ++ es))))) else none
  | _ => none
theorem same_own {K : PySem.W.Frag} {B : Bs} {F H : Hp} {w : Addr → Option Nat} {ρ : Ev} {σ : St} {i : Nat} {ds : List D} {v : V} (W : WF K R B F w ρ σ H) (h : getO i ρ = some ds) (hv : σ[i]? = some (some v)) : ∃ a vs, v = .ref a ∧ w a = some i ∧ H a = some (.lst vs) ∧ RpAll K F vs ds ∧ i < ρ.length := by
  obtain ⟨a, vs, h1, h2, h3, h4, h5⟩ := W.own h
  exact ⟨a, vs, Option.some.inj (Option.some.inj (hv.symm.trans h1)), h2, h3, h4, h5⟩
theorem tyL {K : PySem.W.Frag} {H : Hp} {a : Addr} {vs : List V} (h : H a = some (.lst vs)) : tyV K "list" (.ref a) H := Or.inl ⟨rfl, _, Or.inl (Or.inl h)⟩
theorem ms_append (i : Nat) {x : Str} {px : Pos} (ha : PE X e (tE X.K R ma)) (hi : i ≠ 0 := by decide) (hN : X.N[i]? = some x := by rfl) (hv : Vis X.env.scope x := by first | exact Or.inl rfl | exact Or.inr (Or.inl rfl) | exact Or.inr (Or.inr rfl)) (hd : (x == ("__debug__" : Str)) = false := by decide) (hcd : (x == ("__classdict__" : Str)) = false := by decide)
    (hs : starEach [e] X.env = (false, eval e X.env) :: starEach [] X.env := by rfl)
    (hpe : PE X (.Call (.Attribute (.Name x px) "append" apos) [e] [] p) (tBM X.K "list" rAppend (tVar i) (tCons (tE X.K R ma) tNil))) (hsw : swapsWith (.Call (.Attribute (.Name x px) "append" apos) [e] [] p) none pos.line X.env = pure false := by rfl) :
    PS X (.Expr (.Call (.Attribute (.Name x px) "append" apos) [e] [] p) pos) (tS X.K R (mApp i ma)) := (ps_expr hpe hsw).imp fun E σ H ⟨B, F, w, ρ, o, W, h, q⟩ => by
  obtain ⟨ds0, h0, h⟩ := Option.bind_eq_some_iff.mp h
  obtain ⟨⟨y, ρ1⟩, h1, h⟩ := Option.bind_eq_some_iff.mp h
  obtain ⟨ds, h2, h⟩ := Option.bind_eq_some_iff.mp h
  split at h
  · rename_i hl
    cases h
    obtain ⟨a0, vs0, e0, _, g0, _, _⟩ := W.own h0
    refine ⟨_, e0, tyL g0, B, F, w, ρ, y, ρ1, W, h1, fun v F1 w1 H1 W1 E1 r1 => ?_⟩
    obtain ⟨a1, vs, ea, hw, hh, hr, hil⟩ := same_own W1 h2 e0
    cases ea
    refine ⟨a0, vs, v, rfl, rfl, hh, by rw [hr.length, ll_line]; exact hl, ?_⟩
    exact q F1 w1 σ _ (frs_wr W1 hi hw hh e0 hil (hr.append (.cons r1 .nil))) E1.ff
  · cases h
/-! ### several names at once -/
/-- a value for a slot: data, or a new list of one's own -/
inductive SV where
  | f (d : D)
  | n (ds : List D)
def SV.sl : SV → Sl
  | .f d => .fr d
  | .n ds => .ow (.list ds)
/-- arguments for slots: each stands still or is new -/
def tAS (K : PySem.W.Frag) (R : ORel) (m : Ev → Option (List SV × Ev)) : TA := fun σ H Q => ∃ B F w ρ ds ρ', WF K R B F w ρ σ H ∧ m ρ = some (ds, ρ') ∧
  ∀ vs F' w' H' (u : Addr → Option Nat), WF K R B F' w' ρ' σ H' → ExE F w H F' w' H' → vs.length = ds.length → (∀ k v s, vs[k]? = some v → ds[k]? = some s → VR K R F' H' (fun b => u b = some k) v s.sl) → (∀ b k, u b = some k → F' b = none ∧ w' b = none ∧ H' b ≠ none ∧ B.H b = none ∧ H b = none) → Q vs H'
theorem pas_nil : PA X [] (tAS X.K R fun ρ => some ([], ρ)) := pa_nil.imp fun σ H Q ⟨B, F, w, ρ, d, ρ', W, h, q⟩ => by
  cases h
  exact q [] F w H (fun _ => none) W .refl rfl (fun k v s z => by simp at z) fun b k z => nomatch z
def mConsS (m : Ev → Option (D × Ev)) (n : Ev → Option (List SV × Ev)) : Ev → Option (List SV × Ev) := fun ρ => (m ρ).bind fun x => (n x.2).map fun y => (.f x.1 :: y.1, y.2)
def mConsN (m : Ev → Option (List D)) (n : Ev → Option (List SV × Ev)) : Ev → Option (List SV × Ev) := fun ρ => (m ρ).bind fun x => (n ρ).map fun y => (.n x :: y.1, y.2)
theorem vr_shift {K : PySem.W.Frag} {F H : Hp} {u : Addr → Option Nat} {k : Nat} {v : V} {s : Sl} (h : VR K R F H (fun b => u b = some k) v s) : VR K R F H (fun b => (u b).map (· + 1) = some (k + 1)) v s := h.wide fun b hb => by rw [hb]; rfl
theorem pas_cons {n : Ev → Option (List SV × Ev)} (ha : PE X e (tE X.K R ma)) (hr : PA X es (tAS X.K R n)) (hs : starEach (e :: es) X.env = (false, eval e X.env) :: starEach es X.env := by rfl) : PA X (e :: es) (tAS X.K R (mConsS ma n)) :=
  (pa_cons ha hr hs).imp fun σ H Q ⟨B, F, w, ρ, ds, ρ', W, h, q⟩ => by
    obtain ⟨⟨x, ρ1⟩, h1, h⟩ := Option.bind_eq_some_iff.mp h
    obtain ⟨⟨xs, ρ2⟩, h2, h⟩ := Option.map_eq_some_iff.mp h
    cases h
    refine ⟨B, F, w, ρ, x, ρ1, W, h1, fun v F1 w1 H1 W1 E1 r1 => ?_⟩
    refine ⟨B, F1, w1, ρ1, xs, _, W1, h2, fun vs F2 w2 H2 u W2 E2 hl hv hu => ?_⟩
    refine q (v :: vs) F2 w2 H2 (fun b => (u b).map (· + 1)) W2 (E1.trans E2) (by simp [hl]) (fun k v' s z1 z2 => ?_) (fun b k z => ?_)
    · cases k with
      | zero => simp at z1 z2; subst z1; subst z2; exact r1.up E2.ff
      | succ k => exact vr_shift (hv k v' s (by simpa using z1) (by simpa using z2))
    · obtain ⟨k', z1, _⟩ := Option.map_eq_some_iff.mp z
      obtain ⟨y1, y2, y3, y4, y5⟩ := hu b k' z1
      refine ⟨y1, y2, y3, y4, ?_⟩
      cases q : H b with
      | none => rfl
      | some o => exact absurd y5 (E1.hd b (by rw [q]; exact fun z => nomatch z))
open Classical in
theorem pas_consN {n : Ev → Option (List SV × Ev)} {mn : Ev → Option (List D)} (ha : PE X e (tNL X.K R mn)) (hr : PA X es (tAS X.K R n)) (hs : starEach (e :: es) X.env = (false, eval e X.env) :: starEach es X.env := by rfl) : PA X (e :: es) (tAS X.K R (mConsN mn n)) :=
  (pa_cons ha hr hs).imp fun σ H Q ⟨B, F, w, ρ, ds, ρ', W, h, q⟩ => by
    obtain ⟨x, h1, h⟩ := Option.bind_eq_some_iff.mp h
    obtain ⟨⟨xs, ρ2⟩, h2, h⟩ := Option.map_eq_some_iff.mp h
    cases h
    refine ⟨B, F, w, ρ, x, W, h1, fun a us F1 H1 E1 nf nh hh r => ?_⟩
    have W1 := W.ext E1
    have fr := frs_new W nf nh hh
    refine ⟨B, F1, w, ρ, xs, _, W1, h2, fun vs F2 w2 H2 u W2 E2 hl hv hu => ?_⟩
    have hw : w a = none := (fr a rfl).2.1
    have hb : B.H a = none := (fr a rfl).2.2.2
    have ha2 : H2 a = some (.lst us) := E2.hk a _ hh hw
    have hf2 : F2 a = none := by
      cases z : F2 a with
      | none => rfl
      | some o =>
        rcases E2.nf a (by rw [z]; exact fun q => nomatch q) with q | q | q
        · exact absurd nf q
        · exact absurd hw q
        · rw [hh] at q; cases q
    have hw2 : w2 a = none := by
      cases z : w2 a with
      | none => rfl
      | some o =>
        rcases E2.nw a (by rw [z]; exact fun q => nomatch q) with q | q
        · exact absurd hw q
        · rw [hh] at q; cases q
    refine q (.ref a :: vs) F2 w2 H2 (fun b => if b = a then some 0 else (u b).map (· + 1)) W2 (E1.exE.trans E2) (by simp [hl]) (fun k v' s z1 z2 => ?_) (fun b k z => ?_)
    · cases k with
      | zero => simp at z1 z2; subst z1; subst z2; exact .inl ⟨a, us, x, rfl, rfl, if_pos rfl, ha2, r.up E2.ff⟩
      | succ k =>
        refine (vr_shift (hv k v' s (by simpa using z1) (by simpa using z2))).wide fun b hb => ?_
        obtain ⟨k', z3, _⟩ := Option.map_eq_some_iff.mp hb
        have := (hu b k' z3).2.2.2.2
        show (if b = a then some 0 else (u b).map (· + 1)) = some (k + 1)
        rw [if_neg (fun q => by rw [q, hh] at this; cases this)]
        exact hb
    · by_cases hba : b = a
      · subst hba; exact ⟨hf2, hw2, by rw [ha2]; exact (fun z => nomatch z), hb, nh⟩
      · rw [if_neg hba] at z
        obtain ⟨k', z1, _⟩ := Option.map_eq_some_iff.mp z
        obtain ⟨y1, y2, y3, y4, y5⟩ := hu b k' z1
        exact ⟨y1, y2, y3, y4, E1.hh.free y5⟩
/-- the slots is get the values -/
def setAll : List Nat → List SV → Ev → Ev
  | i :: is, s :: ss, ρ => setAll is ss (ρ.set i s.sl)
  | _, _, ρ => ρ
def setSt : List Nat → List V → St → St
  | i :: is, v :: vs, σ => setSt is vs (σ.set i (some v))
  | _, _, σ => σ
theorem WF.setAll {K : PySem.W.Frag} {B : Bs} {F H : Hp} : ∀ {is : List Nat} {vs : List V} {ds : List SV} {w : Addr → Option Nat} {ρ : Ev} {σ : St} (u : Addr → Option Nat), WF K R B F w ρ σ H → vs.length = ds.length → (∀ k v s, vs[k]? = some v → ds[k]? = some s → VR K R F H (fun b => u b = some k) v s.sl) →
    (∀ b k, u b = some k → F b = none ∧ w b = none ∧ H b ≠ none ∧ B.H b = none) → ∃ w', WF K R B F w' (Mi.setAll is ds ρ) (setSt is vs σ) H
  | [], _, _, w, _, _, _, W, _, _, _ => ⟨w, W⟩
  | i :: is, [], [], w, _, _, _, W, _, _, _ => ⟨w, W⟩
  | i :: is, v :: vs, s :: ds, w, ρ, σ, u, W, hl, hv, hu => by
    obtain ⟨w1, W1, hw1⟩ := W.set1 (i := i) (hv 0 v s rfl rfl) (fun b hb => hu b 0 hb)
    refine WF.setAll (is := is) (vs := vs) (ds := ds) (fun b => match u b with | some (k + 1) => some k | _ => none) W1 (by simpa using hl) (fun k v' s' z1 z2 => ?_) (fun b k z => ?_)
    · refine (hv (k + 1) v' s' (by simpa using z1) (by simpa using z2)).wide fun b hb => ?_
      show (match u b with | some (k + 1) => some k | _ => none) = some k
      rw [hb]
    · have hub : u b = some (k + 1) := by
        cases q : u b with
        | none => rw [q] at z; cases z
        | some j =>
          rw [q] at z
          cases j with
          | zero => cases z
          | succ j => cases z; rfl
      obtain ⟨y1, y2, y3, y4⟩ := hu b _ hub
      refine ⟨y1, ?_, y3, y4⟩
      rw [hw1 b (fun q => by rw [hub] at q; cases q)]
      exact y2
def mPar (is : List Nat) (n : Ev → Option (List SV × Ev)) : Ev → Option Out := fun ρ => (n ρ).bind fun x => if x.1.length = is.length then some (.nx (setAll is x.1 x.2)) else none
theorem tr_par {K : PySem.W.Frag} {n : Ev → Option (List SV × Ev)} {is : List Nat} {E : Ends} {σ : St} {H : Hp} (h : tS K R (mPar is n) E σ H) : tAS K R n σ H fun vs H1 => vs.length = is.length ∧ E.nx (setSt is vs σ) H1 := by
  obtain ⟨B, F, w, ρ, o, W, h, q⟩ := h
  obtain ⟨⟨ds, ρ1⟩, h1, h⟩ := Option.bind_eq_some_iff.mp h
  split at h
  · rename_i hl
    cases h
    refine ⟨B, F, w, ρ, ds, ρ1, W, h1, fun vs F1 w1 H1 u W1 E1 hlen hv hu => ⟨hlen.trans hl, ?_⟩⟩
    obtain ⟨w2, W2⟩ := W1.setAll (is := is) u hlen hv fun b k z => ⟨(hu b k z).1, (hu b k z).2.1, (hu b k z).2.2.1, (hu b k z).2.2.2.1⟩
    exact q F1 w2 _ H1 W2 E1.ff
  · cases h
theorem len2 {vs : List V} (h : vs.length = 2) : ∃ v w, vs = [v, w] := by
  match vs, h with | [v, w], _ => exact ⟨v, w, rfl⟩
theorem len3 {vs : List V} (h : vs.length = 3) : ∃ u v w, vs = [u, v, w] := by
  match vs, h with | [u, v, w], _ => exact ⟨u, v, w, rfl⟩
theorem _root_.L2.tAS_mono {K : PySem.W.Frag} {n : Ev → Option (List SV × Ev)} {σ : St} {H : Hp} {Q Q' : List V → Hp → Prop} (h : tAS K R n σ H Q) (k : ∀ vs H', Q vs H' → Q' vs H') : tAS K R n σ H Q' := by
  obtain ⟨B, F, w, ρ, ds, ρ', W, h1, q⟩ := h
  exact ⟨B, F, w, ρ, ds, ρ', W, h1, fun vs F' w' H' u W' E hl hv hu => k _ _ (q vs F' w' H' u W' E hl hv hu)⟩
theorem ms_par2 {n : Ev → Option (List SV × Ev)} {i j : Nat} {x y : Str} {a b : Expr} {px py pt : Pos} {kt k2 pt2} (hc : X.calm = true) (hN : X.N.Nodup) (hi : X.N[i]? = some x) (hj : X.N[j]? = some y) (hij : i ≠ j)
    (hx : X.env.scope.names.lookup x = some .local) (hy : X.env.scope.names.lookup y = some .local) (ha : PA X [a, b] (tAS X.K R n))
    (hps : PS X (.Assign [.Tuple [.Name x px, .Name y py] kt pt] (.Tuple [a, b] k2 pt2) pos) (tPar i j (tAS X.K R n))) :
    PS X (.Assign [.Tuple [.Name x px, .Name y py] kt pt] (.Tuple [a, b] k2 pt2) pos) (tS X.K R (mPar [i, j] n)) := hps.imp fun E σ H h => by
  refine tAS_mono (tr_par h) fun vs H1 ⟨hl, q⟩ => ?_
  obtain ⟨v, w, rfl⟩ := len2 hl
  exact ⟨v, w, rfl, q⟩
theorem ms_par3 {n : Ev → Option (List SV × Ev)} {i j l : Nat} {st : Stmt}
    (hps : PS X st (tPar3 i j l (tAS X.K R n))) : PS X st (tS X.K R (mPar [i, j, l] n)) := hps.imp fun E σ H h => by
  refine tAS_mono (tr_par h) fun vs H1 ⟨hl, q⟩ => ?_
  obtain ⟨u, v, w, rfl⟩ := len3 hl
  exact ⟨u, v, w, rfl, q⟩
/-- by a tuple that is made and taken apart -/
def tGN (is : List Nat) : TGs := fun us σ H Q => us.length = is.length ∧ Q (setSt is us σ) H
theorem pgn_nil : PGs X [] (tGN []) := pgs_nil.imp fun v σ H Q ⟨h, q⟩ => by
  have : v = [] := List.eq_nil_of_length_eq_zero h
  subst this
  exact ⟨rfl, q⟩
theorem pgn_cons {i : Nat} {x : Str} {px : Pos} {is : List Nat} (hN : X.N.Nodup) (hi : X.N[i]? = some x) (hx : Loc X.env.scope x) (h2 : PGs X es (tGN is)) (hf : X.fn x = true ∨ X.env.scope.names.lookup x = some .local := by first | exact .inl rfl | exact .inr rfl | assumption)
    (hs : (assignEach (.Name x px :: es) X.env).map (·.2) = assign (.Name x px) X.env :: (assignEach es X.env).map (·.2) := by rfl) : PGs X (.Name x px :: es) (tGN (i :: is)) := (pgs_cons (pg_name hN hi hx hf) h2 hs).imp fun us σ H Q ⟨h, q⟩ => by
  cases us with
  | nil => simp at h
  | cons v vs => exact ⟨v, vs, rfl, by simpa using h, q⟩
theorem ms_parN {n : Ev → Option (List SV × Ev)} {is : List Nat} {tgs vals : List Expr} {k1 k2 k3 : Nat} {pt pv : Pos} (hc : X.calm = true) (ha : PA X vals (tAS X.K R n)) (hg : PGs X tgs (tGN is)) (hn : (assignEach tgs X.env).length = k3 := by rfl) (hst : (assignEach tgs X.env).findIdx? (·.1) = none := by rfl) (hk : is.length = k3 := by rfl) (hz : k3 ≤ LL := by decide)
    (hs : swapsWithSole [.Tuple tgs k1 pt] (.Tuple vals k2 pv) pos.line X.env = pure false := by rfl) (hw : swappedStores [.Tuple tgs k1 pt] (.Tuple vals k2 pv) X.env = pure none := by rfl) (h1 : (assignEach [.Tuple tgs k1 pt] X.env).map (·.2) = [assign (.Tuple tgs k1 pt) X.env] := by rfl) :
    PS X (.Assign [.Tuple tgs k1 pt] (.Tuple vals k2 pv) pos) (tS X.K R (mPar is n)) := (ps_asg (pe_tup ha) (pg_tup hc hg hn hst) hs hw h1).imp fun E σ H h => by
  obtain ⟨B, F, w, ρ, o, W, h, q⟩ := h
  obtain ⟨⟨ds, ρ1⟩, h1, h⟩ := Option.bind_eq_some_iff.mp h
  split at h
  · rename_i hl
    cases h
    refine ⟨B, F, w, ρ, ds, ρ1, W, h1, fun vs F1 w1 H1 u W1 E1 hlen hv hu => ⟨by rw [ll_line, hlen, hl, hk]; exact hz, fun p np => ?_⟩⟩
    refine ⟨p, vs, rfl, SqT.of upd_same, by rw [hlen, hl, hk], hlen.trans hl, ?_⟩
    have Ep : Ext F1 H1 F1 (upd H1 p (.tup vs)) := Ext.newM W1.fh np
    have W2 := W1.ext Ep
    obtain ⟨w3, W3⟩ := W2.setAll (is := is) u hlen (fun k v s z1 z2 => (hv k v s z1 z2).up (Same.refl _) fun b hb => by
      have := (hu b k hb).2.2.1
      rw [upd_ne (fun q => this (by rw [q]; exact np))]) fun b k z => ⟨(hu b k z).1, (hu b k z).2.1, by
        have := (hu b k z).2.2.1
        rw [upd_ne (fun q => this (by rw [q]; exact np))]; exact this, (hu b k z).2.2.2.1⟩
    exact q F1 w3 _ _ W3 E1.ff
  · cases h
end
end Mi

end
section
set_option maxHeartbeats 2000000
open PySem PySem.Spec PyProof.Rows
namespace Mi
open L2
section
variable {X : Cx} {R : ORel} {e e2 a b c tg iter : Expr} {es : List Expr} {m me : Ev → Option D} {ma mb mc : Ev → Option (D × Ev)} {pos pos' p tpos apos : Pos} {elts : List Expr} {kk : Nat}
/-! ### walked, with a change of what is one's own -/
def tIE (K : PySem.W.Frag) (R : ORel) (m : Ev → Option (List D × Ev)) : TI := fun σ H Q => ∃ B F w ρ ds ρ', WF K R B F w ρ σ H ∧ m ρ = some (ds, ρ') ∧ ∀ J F' w' H', WF K R B F' w' ρ' σ H' → ExE F w H F' w' H' → GoesD K J F' ds → Q J H'
theorem ei {n : Ev → Option (List D)} (h : PI X tg e (tIF X.K R n)) : PI X tg e (tIE X.K R (mE n)) := h.imp fun σ H Q ⟨B, F, w, ρ, d, ρ', W, h, q⟩ => by
  obtain ⟨x, h1, h⟩ := Option.map_eq_some_iff.mp h
  cases h
  exact ⟨B, F, w, ρ, d, W, h1, fun J F' H' E g => q J F' w H' (W.ext E) E.exE g⟩
theorem pi_seqE (h : PE X e (tE X.K R ma)) : PI X tg e (tIE X.K R (mCE ma itemsD)) := (pi_seqA h).imp fun σ H Q ⟨B, F, w, ρ, ds, ρ', W, h, q⟩ => by
  obtain ⟨⟨d, ρ1⟩, h1, h⟩ := Option.bind_eq_some_iff.mp h
  obtain ⟨z, h2, h⟩ := Option.map_eq_some_iff.mp h
  cases h
  refine ⟨B, F, w, ρ, d, ρ1, W, h1, fun v F1 w1 H1 W1 E1 r1 => ?_⟩
  obtain ⟨k, a, vs, rfl, h3, h4⟩ := sq_of r1 h2
  have g := goes_seq h3 h4
  cases k with
  | false => exact ⟨a, rfl, .inl ⟨⟨vs, same_l W1.fh h3⟩, q _ F1 w1 H1 W1 E1 (g.1 rfl)⟩⟩
  | true => exact ⟨a, rfl, .inr ⟨⟨vs, same_t W1.fh h3⟩, q _ F1 w1 H1 W1 E1 (g.2 rfl)⟩⟩
theorem pi_rng1E {n : Ev → Option (List D × Ev)} (hg : Gl X "range") (hm : X.mg "range" = none) (ha : PA X [e] (tAE X.K R n)) (hs : starEach [e] X.env = [(false, eval e X.env)] := by rfl) : PI X tg (.Call (.Name "range" p) [e] [] pos) (tIE X.K R (mCE n fun ds => if ds.length = 1 then rangeD ds else none)) :=
  (pi_range1 hg hm ha hs).imp fun σ H Q ⟨B, F, w, ρ, ds, ρ', W, h, q⟩ => by
    obtain ⟨⟨es, ρ1⟩, h1, h⟩ := Option.bind_eq_some_iff.mp h
    obtain ⟨z, h2, h⟩ := Option.map_eq_some_iff.mp h
    cases h
    have h : (if es.length = 1 then rangeD es else none) = some ds := h2
    split at h
    · refine ⟨B, F, w, ρ, es, ρ1, W, h1, fun vs F1 w1 H1 W1 E1 r1 => ?_⟩
      unfold rangeD at h
      split at h
      · split at h
        · rename_i hb
          simp only [Bool.and_eq_true, decide_eq_true_eq] at hb
          injection h with h; subst h
          obtain ⟨v, rfl, r⟩ := RpAll.one r1
          cases r
          exact ⟨_, rfl, hb.1, hb.2, q _ F1 w1 H1 W1 E1 goes_range⟩
        · cases h
      · simp at *
      · simp at *
      · cases h
    · cases h
theorem pi_rng2E {n : Ev → Option (List D × Ev)} (hg : Gl X "range") (hm : X.mg "range" = none) (ha : PA X [e, e2] (tAE X.K R n)) (hs : starEach [e, e2] X.env = [(false, eval e X.env), (false, eval e2 X.env)] := by rfl) (hs2 : starEach [e2] X.env = [(false, eval e2 X.env)] := by rfl) : PI X tg (.Call (.Name "range" p) [e, e2] [] pos) (tIE X.K R (mCE n fun ds => if ds.length = 2 then rangeD ds else none)) :=
  (pi_range2 hg hm ha hs hs2).imp fun σ H Q ⟨B, F, w, ρ, ds, ρ', W, h, q⟩ => by
    obtain ⟨⟨es, ρ1⟩, h1, h⟩ := Option.bind_eq_some_iff.mp h
    obtain ⟨z, h2, h⟩ := Option.map_eq_some_iff.mp h
    cases h
    have h : (if es.length = 2 then rangeD es else none) = some ds := h2
    split at h
    · refine ⟨B, F, w, ρ, es, ρ1, W, h1, fun vs F1 w1 H1 W1 E1 r1 => ?_⟩
      unfold rangeD at h
      split at h
      · simp at *
      · split at h
        · rename_i hb
          simp only [Bool.and_eq_true, decide_eq_true_eq] at hb
          injection h with h; subst h
          cases r1 with | cons a t => cases t with | cons b t => cases t; cases a; cases b; exact ⟨_, _, rfl, hb, q _ F1 w1 H1 W1 E1 goes_range⟩
        · cases h
      · simp at *
      · cases h
    · cases h
theorem ms_forE {mi : Ev → Option (List D × Ev)} {mg : D → Ev → Option Ev} {mb : Ev → Option Out} {is : List Nat} {body : List Stmt} (hp : PassesOwn (model X.prog X.w) X.A X.env X.xe) (hc : X.calm = true) (hi : PI X tg iter (tIE X.K R mi)) (hg : PG X tg (tG X.K R is mg)) (hb : PSs X body (tS X.K R mb)) (hs : ∀ x, foldedSetIterable iter X.env x = pure x := by intro _; rfl) :
    PS X (.For tg iter body [] pos) (tS X.K R (mForE mi mg mb)) := (ps_for hp hc hi hg hb hs).imp fun E σ H ⟨B, F, w, ρ, o, W, h, q⟩ => by
  obtain ⟨⟨ds, ρ1⟩, h1, h⟩ := Option.bind_eq_some_iff.mp h
  exact ⟨B, F, w, ρ, ds, ρ1, W, h1, fun J F1 w1 H1 W1 E1 g => tr_forgo W1 g h (q.mono E1.ff)⟩
/-! ### comprehensions that draw -/
def keepFr (ρ : Ev) (v : Nat) : Sl := match ρ[v]? with
  | some (.fr d) => .fr d
  | _ => .no
/-- behind a block: its own names as they were ahead of it -/
def backE (ρ ρ2 : Ev) : List Nat → Ev
  | [] => ρ2
  | v :: vs => (backE ρ ρ2 vs).set v (keepFr ρ v)
theorem backE_length (ρ ρ2 : Ev) : ∀ vs : List Nat, (backE ρ ρ2 vs).length = ρ2.length
  | [] => rfl
  | v :: vs => by unfold backE; rw [List.length_set, backE_length ρ ρ2 vs]
theorem backE_get {ρ ρ2 : Ev} {i : Nat} {s : Sl} : ∀ {vs : List Nat}, (backE ρ ρ2 vs)[i]? = some s → s = .no ∨ (∃ d, s = .fr d ∧ ρ[i]? = some (.fr d)) ∨ (i ∉ vs ∧ ρ2[i]? = some s)
  | [], h => .inr (.inr ⟨by simp, h⟩)
  | v :: vs, h => by
    unfold backE at h
    rcases getElem?_set_cases h with ⟨rfl, e, _⟩ | ⟨hne, h⟩
    · unfold keepFr at e
      split at e
      · exact .inr (.inl ⟨_, e, by assumption⟩)
      · exact .inl e
    · rcases backE_get h with e | e | ⟨h1, h2⟩
      · exact .inl e
      · exact .inr (.inl e)
      · exact .inr (.inr ⟨by simp only [List.mem_cons, not_or]; exact ⟨hne, h1⟩, h2⟩)
theorem WF.back {K : PySem.W.Frag} {B : Bs} {F F0 H H0 : Hp} {w w0 : Addr → Option Nat} {ρ0 ρ : Ev} {σ0 σ : St} {vs : List Nat} (W0 : WF K R B F0 w0 ρ0 σ0 H0) (W : WF K R B F w ρ σ H) (ff : Same F0 F) (hw : L2.wipe σ vs = L2.wipe σ0 vs) (hl : ρ.length = ρ0.length) : WF K R B F w (backE ρ0 ρ vs) σ0 H := by
  refine ⟨W.fh, W.f0, W.fn, W.wf, W.keep, W.dom, by rw [backE_length, hl]; exact W0.len, fun i s h => ?_⟩
  rcases backE_get h with e | ⟨d, rfl, e⟩ | ⟨hn, e⟩
  · subst e; trivial
  · obtain ⟨v, e1, r⟩ := W0.sl i _ e
    exact ⟨v, e1, Rp.up r ff⟩
  · have q := W.sl i s e
    have key : ∀ v : V, σ[i]? = some (some v) → σ0[i]? = some (some v) := fun v z => by
      have z1 := wipe_keep (vs := vs) hn z
      rw [hw] at z1
      exact (wipe_some z1).1
    cases s with
    | no => trivial
    | fr d => obtain ⟨v, e1, z⟩ := q; exact ⟨v, key v e1, z⟩
    | ow d => obtain ⟨v, e1, z⟩ := q; exact ⟨v, key v e1, z⟩
    | ob c d => obtain ⟨v, e1, z⟩ := q; exact ⟨v, key v e1, z⟩
def lcGoE (vs : List Nat) (mg : D → Ev → Option Ev) (mt : Ev → Option (Bool × Ev)) (me : Ev → Option (D × Ev)) : List D → Ev → Option (List D × Ev)
  | [], ρ => some ([], ρ)
  | d :: ds, ρ => (mg d (wipeE ρ vs)).bind fun ρ1 => (mt ρ1).bind fun b => if b.1 = true then (me b.2).bind fun x => if x.2.length = ρ.length then (lcGoE vs mg mt me ds (backE ρ x.2 vs)).map fun y => (x.1 :: y.1, y.2) else none
    else if b.2.length = ρ.length then lcGoE vs mg mt me ds (backE ρ b.2 vs) else none
def mLcE (vs : List Nat) (mi : Ev → Option (List D × Ev)) (mg : D → Ev → Option Ev) (mt : Ev → Option (Bool × Ev)) (me : Ev → Option (D × Ev)) : Ev → Option (List D × Ev) := fun ρ => (mi ρ).bind fun x => if x.1.length ≤ LL then lcGoE vs mg mt me x.1 x.2 else none
/-- a new list, behind changes -/
def tNE (K : PySem.W.Frag) (R : ORel) (m : Ev → Option (List D × Ev)) : TE := fun σ H Q => ∃ B F w ρ ds ρ', WF K R B F w ρ σ H ∧ m ρ = some (ds, ρ') ∧ ∀ a vs F' w' H', WF K R B F' w' ρ' σ H' → ExE F w H F' w' H' → F' a = none → w' a = none → H a = none → B.H a = none → H' a = some (.lst vs) → RpAll K F' vs ds → Q (.ref a) H'
theorem pts_nilE : PTs X [] (tBE X.K R fun ρ => some (true, ρ)) := ⟨fun pins s σ H Q I ⟨B, F, w, ρ, b, ρ', W, h, q⟩ => by
  cases h
  exact pts_nil.run pins s σ H Q I (q F w H W .refl)⟩
theorem pts_oneM {t : Ev → Option Bool} (h : PT X c (tB X.K R t)) : PTs X [c] (tB X.K R t) := pts_one h
theorem pts_oneE {t : Ev → Option (Bool × Ev)} (h : PT X c (tBE X.K R t)) : PTs X [c] (tBE X.K R t) := pts_one h
theorem ex_none {F H F' H' : Hp} {w w' : Addr → Option Nat} {D : Addr} {o : HO} (E : ExE F w H F' w' H') (fd : F D = none) (wd : w D = none) (hd : H D = some o) : F' D = none ∧ w' D = none ∧ H' D = some o := by
  refine ⟨?_, ?_, E.hk D o hd wd⟩
  · cases z : F' D with
    | none => rfl
    | some u =>
      rcases E.nf D (by rw [z]; exact fun q => nomatch q) with q | q | q
      · exact absurd fd q
      · exact absurd wd q
      · rw [hd] at q; cases q
  · cases z : w' D with
    | none => rfl
    | some u =>
      rcases E.nw D (by rw [z]; exact fun q => nomatch q) with q | q
      · exact absurd wd q
      · rw [hd] at q; cases q
theorem WF.updF {K : PySem.W.Frag} {B : Bs} {F H : Hp} {w : Addr → Option Nat} {ρ : Ev} {σ : St} {a : Addr} {u : HO} (W : WF K R B F w ρ σ H) (fd : F a = none) (wd : w a = none) (hb : B.H a = none) : WF K R B F w ρ σ (upd H a u) := by
  refine ⟨upd_same_ext (u := .lst []) W.fh fd, W.f0, W.fn, fun b j z => ?_, fun b ns o z => ?_, fun b z => ?_, W.len, fun j s z => ?_⟩
  · obtain ⟨z1, z2, z3⟩ := W.wf b j z
    refine ⟨z1, ?_, z3⟩
    by_cases q : b = a
    · subst q; rw [upd_same]; exact fun z => nomatch z
    · rw [upd_ne q]; exact z2
  · rw [upd_ne (ne_of_none z hb)]; exact W.keep b ns o z
  · by_cases q : b = a
    · subst q; rw [upd_same]; exact fun z => nomatch z
    · rw [upd_ne q]; exact W.dom b z
  · refine (W.sl j s z).imp fun v q => q.up (Same.refl _) fun b hb' => ?_
    rw [upd_ne (fun q => by rw [q, wd] at hb'; cases hb')]
theorem ExE.updN {F H F' H' : Hp} {w w' : Addr → Option Nat} {a : Addr} {u : HO} (E : ExE F w H F' w' H') (h : H a = none) : ExE F w H F' w' (upd H' a u) := by
  refine ⟨E.ff, fun b o z wz => by rw [upd_ne (ne_of_none z h)]; exact E.hk b o z wz, fun b z => ?_, E.nf, E.nw⟩
  by_cases q : b = a
  · subst q; rw [upd_same]; exact fun z => nomatch z
  · rw [upd_ne q]; exact E.hd b z
theorem tr_lcE {K : PySem.W.Frag} {vs is : List Nat} {mi : Ev → Option (List D × Ev)} {mg : D → Ev → Option Ev} {mt : Ev → Option (Bool × Ev)} {me : Ev → Option (D × Ev)} (his : ∀ i ∈ is, i ∈ vs) :
    ∀ σ H Q, tNE K R (mLcE vs mi mg mt me) σ H Q → tLc (tIE K R mi) (tG K R is mg) (tBE K R mt) (tE K R me) vs σ H Q := by
  intro σ H Q ⟨B, F, w, ρ, res, ρ', W, h, q⟩
  obtain ⟨⟨ds, ρ0⟩, h1, h⟩ := Option.bind_eq_some_iff.mp h
  split at h
  · rename_i hl
    refine ⟨B, F, w, ρ, ds, ρ0, W, h1, fun J F1 w1 H1 W1 E1 g => ?_⟩
    intro Da nD
    obtain ⟨G, Y, wk, hG, hY⟩ := g
    have bk : ∀ b, H1 b = none → B.H b = none := fun b h => by
      cases z : B.H b with
      | none => rfl
      | some o => exact absurd h (W1.dom b (by rw [z]; exact fun q => nomatch q))
    have fD : F1 Da = none := W1.fh.free nD
    have wD : w1 Da = none := by
      cases z : w1 Da with
      | none => rfl
      | some i => exact absurd nD (W1.wf Da i z).2.1
    have bD := bk Da nD
    have hD0 : H Da = none := by
      cases z : H Da with
      | none => rfl
      | some o => exact absurd nD (E1.hd Da (by rw [z]; exact fun q => nomatch q))
    have idem : ∀ (us : List Nat) (τ : St), (∀ i ∈ us, i ∈ vs) → wipe (wipe τ us) vs = wipe τ vs := by
      intro us
      induction us with
      | nil => intro τ _; rfl
      | cons u us ih =>
        intro τ hu
        show wipe ((wipe τ us).set u none) vs = wipe τ vs
        rw [wipe_set (hu u List.mem_cons_self), ih τ fun i hi => hu i (List.mem_cons_of_mem _ hi)]
    refine lc_it wk (fun i H' => ∃ F' w' ρi av ad rest, WF K R B F' w' ρi σ H' ∧ ExE F w H F' w' H' ∧ Same F1 F' ∧ F' Da = none ∧ w' Da = none ∧ H' Da = some (.lst av) ∧ RpAll K F' av ad ∧ av.length ≤ i ∧ lcGoE vs mg mt me (ds.drop i) ρi = some (rest, ρ') ∧ ad ++ rest = res) ?_ ?_ ?_ ?_
    · refine ⟨F1, w1, ρ0, [], [], res, W1.updF fD wD bD, E1.updN hD0, Same.refl _, fD, wD, upd_same, .nil, Nat.le_refl _, h, rfl⟩
    · rintro i H' _ ⟨F', w', ρi, av, ad, rest, Wi, Ei, fi, _⟩
      exact hG _ (fi.trans Wi.fh)
    · rintro i x H' H'' hi ⟨F', w', ρi, av, ad, rest, Wi, Ei, fi, fd, wd, hd, ra, hlen, hgo, hres⟩ y
      obtain ⟨F2, d, hd1, E2, rx⟩ := hY i F' H' x H'' hi (fi.trans Wi.fh) Wi.fh (fun _ _ z => z.up fi) y
      have hdrop : ds.drop i = d :: ds.drop (i + 1) := by
        have hi' : i < ds.length := (List.getElem?_eq_some_iff.mp hd1).1
        rw [List.drop_eq_getElem_cons hi']
        have := (List.getElem?_eq_some_iff.mp hd1).2
        rw [this]
      rw [hdrop] at hgo
      obtain ⟨ρ1, g1, hgo⟩ := Option.bind_eq_some_iff.mp hgo
      obtain ⟨⟨b, ρ2⟩, g2, hgo⟩ := Option.bind_eq_some_iff.mp hgo
      have W2 : WF K R B F2 w' ρi σ H'' := Wi.ext E2
      obtain ⟨fd2, _, hd2⟩ := ex_none (E2.exE (w := w')) fd wd hd
      refine ⟨B, F2, w', wipeE ρi vs, d, ρ1, W2.wipe vs, rx, g1, fun σ2 Wt ew => ?_⟩
      have hws : wipe σ2 vs = wipe σ vs := by rw [ew vs his]; exact idem vs σ fun _ z => z
      refine ⟨hws, B, F2, w', ρ1, b, ρ2, Wt, g2, fun F3 w3 H3 W3 E3 => ?_⟩
      obtain ⟨fd3, wd3, hd3⟩ := ex_none E3 fd2 wd hd2
      have Ei2 := Ei.trans (E2.exE (w := w'))
      cases b with
      | true =>
        obtain ⟨⟨x1, ρ3⟩, g3, hgo⟩ := Option.bind_eq_some_iff.mp hgo
        simp only at hgo
        split at hgo
        · rename_i hln
          obtain ⟨⟨rest', ρ4⟩, g4, hgo⟩ := Option.map_eq_some_iff.mp hgo
          cases hgo
          refine iteT ⟨B, F3, w3, ρ2, x1, ρ3, W3, g3, fun v F4 w4 H4 W4 E4 r4 => ?_⟩
          obtain ⟨fd4, wd4, hd4⟩ := ex_none E4 fd3 wd3 hd3
          have ff4 := (E2.ff.trans E3.ff).trans E4.ff
          refine ⟨av, hd4, by rw [ll_line]; have h1 : i < ds.length := hi; have h2 : ds.length ≤ LL := hl; omega, F4, w4, backE ρi ρ3 vs, av ++ [v], ad ++ [x1], rest', (WF.back W2 W4 (E3.ff.trans E4.ff) hws hln).updF fd4 wd4 bD, ((Ei2.trans E3).trans E4).updN hD0, fi.trans ff4, fd4, wd4, upd_same, (ra.up ff4).append (.cons r4 .nil), by rw [List.length_append, List.length_singleton]; omega, g4, by rw [← hres]; simp⟩
        · cases hgo
      | false =>
        simp only [Bool.false_eq_true, if_false] at hgo
        split at hgo
        · rename_i hln
          exact iteF ⟨F3, w3, backE ρi ρ2 vs, av, ad, rest, WF.back W2 W3 E3.ff hws hln, Ei2.trans E3, (fi.trans E2.ff).trans E3.ff, fd3, wd3, hd3, (ra.up E2.ff).up E3.ff, by omega, hgo, hres⟩
        · cases hgo
    · rintro H' ⟨F', w', ρi, av, ad, rest, Wi, Ei, fi, fd, wd, hd, ra, hlen, hgo, hres⟩
      rw [List.drop_length] at hgo
      cases hgo
      rw [List.append_nil] at hres
      subst hres
      exact q Da av F' w' H' Wi Ei fd wd hD0 bD hd ra
  · cases h
theorem nfE {n : Ev → Option (List D × Ev)} (h : PE X e (tNE X.K R n)) : PE X e (tE X.K R (mCE n fun ds => some (.list ds))) := h.imp fun σ H Q ⟨B, F, w, ρ, d, ρ', W, h, q⟩ => by
  obtain ⟨⟨ds, ρ1⟩, h1, h⟩ := Option.bind_eq_some_iff.mp h
  obtain ⟨z, h2, h⟩ := Option.map_eq_some_iff.mp h
  cases h
  cases h2
  refine ⟨B, F, w, ρ, ds, ρ1, W, h1, fun a vs F1 w1 H1 W1 E1 nf nw nh nb hh hr => ?_⟩
  have ff : Same F1 (upd F1 a (.lst vs)) := fun b u e => by rw [upd_ne (ne_of_none e nf)]; exact e
  refine q _ (upd F1 a (.lst vs)) w1 H1 ⟨fun b u e => ?_, W1.f0.trans ff, fun b e => ?_, fun b i e => ?_, W1.keep, W1.dom, W1.len, fun i s e => (W1.sl i s e).imp fun v z => z.up ff fun _ _ => rfl⟩ ⟨E1.ff.trans ff, E1.hk, E1.hd, fun b e => ?_, E1.nw⟩ (.lst upd_same (hr.up ff))
  · by_cases q : b = a
    · subst q; rw [upd_same] at e; cases e; exact hh
    · rw [upd_ne q] at e; exact W1.fh b u e
  · by_cases q : b = a
    · subst q; exact .inr nb
    · rw [upd_ne q] at e; exact W1.fn b e
  · rw [upd_ne (fun q => by rw [q, nw] at e; cases e)]; exact W1.wf b i e
  · by_cases q : b = a
    · subst q; exact .inr (.inr nh)
    · rw [upd_ne q] at e; exact E1.nf b e
section
variable {elt : Expr} {ifs : List Expr} {scope : Scope} {own : List (Str × Nat)} {is : List Nat} {mi : Ev → Option (List D × Ev)} {mg : D → Ev → Option Ev} {mt : Ev → Option (Bool × Ev)} {mv : Ev → Option (D × Ev)} {spos py : Pos} {i : Nat} {y : Str}
theorem ne_lc (hc : X.calm = true) (hN : X.N.Nodup) (hi : PI X tg iter (tIE X.K R mi)) (ok : BlkOk X.N X.env.scope scope own)
    (hg : ∀ (s : Shared) (H : Hp) (C : Addr) (cl : List (Str × Addr)) (fp : List Addr), PG (X.blk s H scope (compEnvC scope cl C X.env) fp) tg (tG X.K R is mg)) (ht : ∀ (s : Shared) (H : Hp) (C : Addr) (cl : List (Str × Addr)) (fp : List Addr), PTs (X.blk s H scope (compEnvC scope cl C X.env) fp) ifs (tBE X.K R mt))
    (he : ∀ (s : Shared) (H : Hp) (C : Addr) (cl : List (Str × Addr)) (fp : List Addr), PE (X.blk s H scope (compEnvC scope cl C X.env) fp) elt (tE X.K R mv)) (his : ∀ i ∈ is, i ∈ own.map (·.2) := by decide) (hs : ∀ x, foldedSetIterable iter X.env x = pure x := by intro _; rfl) :
    PE X (.ListComp elt [⟨tg, iter, ifs, 0⟩] scope pos) (tNE X.K R (mLcE (own.map (·.2)) mi mg mt mv)) := (pe_lc hc hN hi ok hg ht he hs).imp (tr_lcE his)
def mSetNE (i : Nat) (m : Ev → Option (List D × Ev)) : Ev → Option Out := fun ρ => (m ρ).map fun p => .nx (p.2.set i (.ow (.list p.1)))
theorem tr_setNE {K : PySem.W.Frag} {i : Nat} {n : Ev → Option (List D × Ev)} : ∀ E σ H, tS K R (mSetNE i n) E σ H → tAsg (tNE K R n) (gName i) E σ H := fun E σ H ⟨B, F, w, ρ, o, W, h, q⟩ => by
  obtain ⟨⟨ds, ρ'⟩, h1, h⟩ := Option.map_eq_some_iff.mp h
  subst h
  refine ⟨B, F, w, ρ, ds, ρ', W, h1, fun a vs F2 w2 H2 W2 E2 nf nw nh nb hh r => ?_⟩
  obtain ⟨w', W', _⟩ := W2.set1 (i := i) (v := .ref a) (s := .ow (.list ds)) (S := fun b => b = a) (.inl ⟨a, vs, ds, rfl, rfl, rfl, hh, r⟩) (fun b e => by subst e; exact ⟨nf, nw, by rw [hh]; exact (fun z => nomatch z), nb⟩)
  exact q F2 w' _ H2 W' E2.ff
theorem ne_e {K : PySem.W.Frag} {n : Ev → Option (List D × Ev)} : ∀ σ H Q, tE K R (mCE n fun ds => some (.list ds)) σ H Q → tNE K R n σ H Q := fun σ H Q ⟨B, F, w, ρ, d, ρ', W, h, q⟩ => by
  obtain ⟨⟨ds, ρ1⟩, h1, h⟩ := Option.bind_eq_some_iff.mp h
  obtain ⟨z, h2, h⟩ := Option.map_eq_some_iff.mp h
  cases h
  cases h2
  refine ⟨B, F, w, ρ, ds, ρ1, W, h1, fun a vs F1 w1 H1 W1 E1 nf nw nh nb hh hr => ?_⟩
  have ff : Same F1 (upd F1 a (.lst vs)) := fun b u e => by rw [upd_ne (ne_of_none e nf)]; exact e
  refine q _ (upd F1 a (.lst vs)) w1 H1 ⟨fun b u e => ?_, W1.f0.trans ff, fun b e => ?_, fun b i e => ?_, W1.keep, W1.dom, W1.len, fun i s e => (W1.sl i s e).imp fun v z => z.up ff fun _ _ => rfl⟩ ⟨E1.ff.trans ff, E1.hk, E1.hd, fun b e => ?_, E1.nw⟩ (.lst upd_same (hr.up ff))
  · by_cases q : b = a
    · subst q; rw [upd_same] at e; cases e; exact hh
    · rw [upd_ne q] at e; exact W1.fh b u e
  · by_cases q : b = a
    · subst q; exact .inr nb
    · rw [upd_ne q] at e; exact W1.fn b e
  · rw [upd_ne (fun q => by rw [q, nw] at e; cases e)]; exact W1.wf b i e
  · by_cases q : b = a
    · subst q; exact .inr (.inr nh)
    · rw [upd_ne q] at e; exact E1.nf b e
theorem ms_setLcE (hc : X.calm = true) (hN : X.N.Nodup) (hy : X.N[i]? = some y) (hyl : X.env.scope.names.lookup y = some .local)
    (hsw : swapsWith (.ListComp elt [⟨tg, iter, ifs, 0⟩] scope pos) (some (.Name y py)) spos.line X.env = pure true) (hi : PI X tg iter (tIE X.K R mi)) (ok : BlkOk X.N X.env.scope scope own)
    (hg : ∀ (s : Shared) (H : Hp) (C : Addr) (cl : List (Str × Addr)) (fp : List Addr), PG (X.blk s H scope (compEnvC scope cl C X.env) fp) tg (tG X.K R is mg)) (ht : ∀ (s : Shared) (H : Hp) (C : Addr) (cl : List (Str × Addr)) (fp : List Addr), PTs (X.blk s H scope (compEnvC scope cl C X.env) fp) ifs (tBE X.K R mt))
    (he : ∀ (s : Shared) (H : Hp) (C : Addr) (cl : List (Str × Addr)) (fp : List Addr), PE (X.blk s H scope (compEnvC scope cl C X.env) fp) elt (tE X.K R mv)) (his : ∀ i ∈ is, i ∈ own.map (·.2) := by decide) (hs : ∀ x, foldedSetIterable iter X.env x = pure x := by intro _; rfl) :
    PS X (.Assign [.Name y py] (.ListComp elt [⟨tg, iter, ifs, 0⟩] scope pos) spos) (tS X.K R (mSetE i (mCE (mLcE (own.map (·.2)) mi mg mt mv) fun ds => some (.list ds)))) :=
  (ps_setLc hc hN hy hyl hsw hi ok hg ht he hs).imp fun E σ H h => tr_asgLc (K := X.K) (fun σ H Q z => tr_lcE his σ H Q (ne_e σ H Q z)) E σ H (tr_setE E σ H h)
theorem ms_setLcNE (hc : X.calm = true) (hN : X.N.Nodup) (hy : X.N[i]? = some y) (hyl : X.env.scope.names.lookup y = some .local)
    (hsw : swapsWith (.ListComp elt [⟨tg, iter, ifs, 0⟩] scope pos) (some (.Name y py)) spos.line X.env = pure true) (hi : PI X tg iter (tIE X.K R mi)) (ok : BlkOk X.N X.env.scope scope own)
    (hg : ∀ (s : Shared) (H : Hp) (C : Addr) (cl : List (Str × Addr)) (fp : List Addr), PG (X.blk s H scope (compEnvC scope cl C X.env) fp) tg (tG X.K R is mg)) (ht : ∀ (s : Shared) (H : Hp) (C : Addr) (cl : List (Str × Addr)) (fp : List Addr), PTs (X.blk s H scope (compEnvC scope cl C X.env) fp) ifs (tBE X.K R mt))
    (he : ∀ (s : Shared) (H : Hp) (C : Addr) (cl : List (Str × Addr)) (fp : List Addr), PE (X.blk s H scope (compEnvC scope cl C X.env) fp) elt (tE X.K R mv)) (his : ∀ i ∈ is, i ∈ own.map (·.2) := by decide) (hs : ∀ x, foldedSetIterable iter X.env x = pure x := by intro _; rfl) :
    PS X (.Assign [.Name y py] (.ListComp elt [⟨tg, iter, ifs, 0⟩] scope pos) spos) (tS X.K R (mSetNE i (mLcE (own.map (·.2)) mi mg mt mv))) :=
  (ps_setLc hc hN hy hyl hsw hi ok hg ht he hs).imp fun E σ H h => tr_asgLc (K := X.K) (tr_lcE his) E σ H (tr_setNE E σ H h)
end
end
end Mi

end
section
set_option maxHeartbeats 2000000
open PySem PySem.Spec PyProof.Rows
namespace Mi
open L2
/-! ### names of built-ins -/
theorem bi_len : bootBuiltins "len" = some (.builtin "len") := by decide +kernel
theorem bi_int : bootBuiltins "int" = some (.type "int") := by decide +kernel
theorem bi_list : bootBuiltins "list" = some (.type "list") := by decide +kernel
theorem bi_tuple : bootBuiltins "tuple" = some (.type "tuple") := by decide +kernel
theorem bi_bool : bootBuiltins "bool" = some (.type "bool") := by decide +kernel
theorem bi_str : bootBuiltins "str" = some (.type "str") := by decide +kernel
theorem bi_range : bootBuiltins "range" = some (.type "range") := by decide +kernel
theorem bi_zip : bootBuiltins "zip" = some (.type "zip") := by decide +kernel
theorem bi_enumerate : bootBuiltins "enumerate" = some (.type "enumerate") := by decide +kernel
theorem bi_any : bootBuiltins "any" = some (.builtin "any") := by decide +kernel
theorem bi_all : bootBuiltins "all" = some (.builtin "all") := by decide +kernel
theorem bi_min : bootBuiltins "min" = some (.builtin "min") := by decide +kernel
theorem bi_max : bootBuiltins "max" = some (.builtin "max") := by decide +kernel
theorem bi_sum : bootBuiltins "sum" = some (.builtin "sum") := by decide +kernel
theorem bi_sorted : bootBuiltins "sorted" = some (.builtin "sorted") := by decide +kernel
theorem bi_set : bootBuiltins "set" = some (.type "set") := by decide +kernel
theorem bi_isinstance : bootBuiltins "isinstance" = some (.builtin "isinstance") := by decide +kernel
theorem bi_abs : bootBuiltins "abs" = some (.builtin "abs") := by decide +kernel
theorem bi_dict : bootBuiltins "dict" = some (.type "dict") := by decide +kernel
theorem bi_reversed : bootBuiltins "reversed" = some (.type "reversed") := by decide +kernel
/-! ### the box that a law draws from -/
def boxD (b : Nat) (cs : List Int) (ac sd : Int) : D := .tuple [.tuple (cs.map PyData.int), .int ac, .int sd, .int b]
def BoxAt (H : Hp) (S : Addr → Prop) (b : Addr) (cs : List Int) (ac sd : Int) : Prop := ∃ c, S b ∧ S c ∧ H b = some (.lst [.ref c, .int ac, .int sd]) ∧ H c = some (.lst (cs.map V.int))
def RB : ORel where
  rel k d F H S b := k = 1 ∧ ∃ cs ac sd, d = boxD b cs ac sd ∧ BoxAt H S b cs ac sd
  mono := fun ⟨h, cs, ac, sd, e, c, s1, s2, h1, h2⟩ _ k => ⟨h, cs, ac, sd, e, c, s1, s2, (k _ s1).trans h1, (k _ s2).trans h2⟩
  wide := fun ⟨h, cs, ac, sd, e, c, s1, s2, h1, h2⟩ k => ⟨h, cs, ac, sd, e, c, k _ s1, k _ s2, h1, h2⟩
  key d := match d with
    | .tuple [_, _, _, .int k] => k.toNat
    | _ => 0
  det := fun ⟨_, cs, ac, sd, e, _⟩ => by subst e; exact (Int.toNat_natCast _).symm
theorem map_int_inj : ∀ {cs cs' : List Int}, cs.map PyData.int = cs'.map PyData.int → cs = cs'
  | [], [], _ => rfl
  | [], _ :: _, h => by cases h
  | _ :: _, [], h => by cases h
  | c :: cs, c' :: cs', h => by
    simp only [List.map_cons, List.cons.injEq, PyData.int.injEq] at h
    rw [h.1, map_int_inj h.2]
theorem boxD_inj {b b' : Nat} {cs cs' : List Int} {ac ac' sd sd' : Int} (h : boxD b cs ac sd = boxD b' cs' ac' sd') : b = b' ∧ cs = cs' ∧ ac = ac' ∧ sd = sd' := by
  simp only [boxD, PyData.tuple.injEq, List.cons.injEq, PyData.int.injEq, and_true] at h
  obtain ⟨h1, h2, h3, h4⟩ := h
  refine ⟨Int.ofNat.inj h4, ?_, h2, h3⟩
  exact map_int_inj h1
/-- numbers drawn -/
def foldN (c : Int) : Int := if 0 ≤ c then 2 * c else -2 * c - 1
def mixA (sd : Int) : Int := (sd * 48271 + 17) % 2147483629
def mixB (sd : Int) : Int := (mixA sd * 69621 + 5) % 2147483587
def mixC (sd : Int) : Int := (mixB sd * 40692 + 3) % 2147483563
def mixV (sd : Int) : Int := mixA sd * 4611686014132420609 + mixB sd * 2147483647 + mixC sd
/-- (number, cells, seed) -/
def loadN (cs : List Int) (sd : Int) : Int × List Int × Int := match cs with
  | [] => (mixV sd, [], mixC sd)
  | c :: cs => if 1000000000000000000 ≤ foldN c then (foldN c, cs, sd) else let s := (sd * 69621 + foldN c * 48271 + 11) % 2147483647; (mixV s, cs, mixC s)
def drawN (cs : List Int) (ac sd n : Int) : Int × List Int × Int × Int := if ac < n then let l := loadN cs sd; (l.1 % n, l.2.1, l.1 / n, l.2.2) else (ac % n, cs, ac / n, sd)
def seedOk (sd : Int) : Bool := decide (0 ≤ sd) && decide (sd < 2147483648)
def intsD : List D → Option (List Int)
  | [] => some []
  | .int i :: ds => (intsD ds).map (i :: ·)
  | _ => none
def loadD : D → List D → Option (D × D) := fun b ds => match b, ds with
  | .tuple [.tuple cs, .int ac, .int sd, .int k], [] => if seedOk sd = true ∧ 0 ≤ k then (intsD cs).bind fun cs => some (.int (loadN cs sd).1, boxD k.toNat (loadN cs sd).2.1 ac (loadN cs sd).2.2) else none
  | _, _ => none
def drawD : D → List D → Option (D × D) := fun b ds => match b, ds with
  | .tuple [.tuple cs, .int ac, .int sd, .int k], [.int n] => if (seedOk sd = true ∧ 0 < n ∧ n < 1073741824) ∧ 0 ≤ k then (intsD cs).bind fun cs => some (.int (drawN cs ac sd n).1, boxD k.toNat (drawN cs ac sd n).2.1 (drawN cs ac sd n).2.2.1 (drawN cs ac sd n).2.2.2) else none
  | _, _ => none
theorem mapM_ints : ∀ cs : List Int, intsD (cs.map PyData.int) = some cs
  | [] => rfl
  | c :: cs => by
    show (intsD (cs.map PyData.int)).map (c :: ·) = some (c :: cs)
    rw [mapM_ints cs]; rfl
theorem loadD_box (b : Nat) (cs : List Int) (ac sd : Int) (h : seedOk sd = true) : loadD (boxD b cs ac sd) [] = some (.int (loadN cs sd).1, boxD b (loadN cs sd).2.1 ac (loadN cs sd).2.2) := by
  simp only [loadD, boxD]
  rw [if_pos ⟨h, Int.natCast_nonneg b⟩, mapM_ints]
  rfl
theorem drawD_box (b : Nat) (cs : List Int) (ac sd n : Int) (h : seedOk sd = true) (h1 : 0 < n) (h2 : n < 1073741824) : drawD (boxD b cs ac sd) [.int n] = some (.int (drawN cs ac sd n).1, boxD b (drawN cs ac sd n).2.1 (drawN cs ac sd n).2.2.1 (drawN cs ac sd n).2.2.2) := by
  simp only [drawD, boxD]
  rw [if_pos ⟨⟨h, h1, h2⟩, Int.natCast_nonneg b⟩, mapM_ints]
  rfl
theorem seed_mix (sd : Int) : seedOk (mixC sd) = true := by
  have h1 : 0 ≤ mixC sd := Int.emod_nonneg _ (by decide)
  have h2 : mixC sd < 2147483563 := Int.emod_lt_of_pos _ (by decide)
  rw [seedOk, decide_eq_true h1, decide_eq_true (by omega)]; rfl
theorem seed_load (cs : List Int) (sd : Int) (h : seedOk sd = true) : seedOk (loadN cs sd).2.2 = true := by
  unfold loadN
  split
  · exact seed_mix _
  · split
    · exact h
    · exact seed_mix _
theorem seed_draw (cs : List Int) (ac sd n : Int) (h : seedOk sd = true) : seedOk (drawN cs ac sd n).2.2.2 = true := by
  unfold drawN
  split
  · exact seed_load _ _ h
  · exact h
theorem draw_range (cs : List Int) (ac sd n : Int) (h : 0 < n) : 0 ≤ (drawN cs ac sd n).1 ∧ (drawN cs ac sd n).1 < n := by
  unfold drawN
  split
  · exact ⟨Int.emod_nonneg _ (by omega), Int.emod_lt_of_pos _ h⟩
  · exact ⟨Int.emod_nonneg _ (by omega), Int.emod_lt_of_pos _ h⟩
/-- what the hand-made defs leave -/
theorem box_end {K : PySem.W.Frag} {F H H' : Hp} {S : Addr → Prop} {b : Addr} {cs' : List Int} {ac' sd' : Int} {c : Addr} {v : V} {d : D} {Q : VK} (e : Same F H) (hS : ∀ b, S b → F b = none ∧ H b ≠ none) (sb : S b) (sc : S c)
    (q : ∀ v F' H' S', Same F F' → Same F' H' → (∀ b o, H b = some o → ¬ S b → H' b = some o) → (∀ b, H b ≠ none → H' b ≠ none) → (∀ b, F' b ≠ none → F b ≠ none ∨ H b = none) → S' b → RB.rel 1 (boxD b cs' ac' sd') F' H' S' b → (∀ b, S' b → F' b = none ∧ H' b ≠ none ∧ (S b ∨ H b = none)) → Rp K F' v d → Q v H')
    (h0 : ∀ x, x ≠ b → x ≠ c → H' x = H x) (h1 : H' b = some (.lst [.ref c, .int ac', .int sd'])) (h2 : H' c = some (.lst (cs'.map V.int))) (rv : Rp K F v d) : Q v H' := by
  have hn : ∀ x, H x ≠ none → H' x ≠ none := fun x hx => by
    by_cases e1 : x = b
    · subst e1; rw [h1]; exact fun z => nomatch z
    · by_cases e2 : x = c
      · subst e2; rw [h2]; exact fun z => nomatch z
      · rw [h0 x e1 e2]; exact hx
  refine q v F H' S (Same.refl _) (fun x u hx => ?_) (fun x o hx ns => ?_) hn (fun x hx => .inl hx) sb ⟨rfl, _, _, _, rfl, c, sb, sc, h1, h2⟩ (fun x hx => ⟨(hS x hx).1, hn x (hS x hx).2, .inl hx⟩) rv
  · have nb : x ≠ b := fun z => by rw [z, (hS b sb).1] at hx; cases hx
    have nc : x ≠ c := fun z => by rw [z, (hS c sc).1] at hx; cases hx
    rw [h0 x nb nc]; exact e x u hx
  · rw [h0 x (fun z => ns (by rw [z]; exact sb)) (fun z => ns (by rw [z]; exact sc))]; exact hx
end Mi

end
section
set_option maxHeartbeats 2000000
open PySem PySem.Spec PyProof.Rows
namespace Mi
open L2
/-! ### what a caller has of a def -/
structure Got (P : Program) (w : World) (K : PySem.W.Frag) (mg : Str → Option Value) (base : Heap) (x : Str) (L : Nat) (ps : List Str) (sp : Sp) : Prop where
  ex : ∃ (f : Addr) (fd : FuncData), mg x = some (.ref f) ∧ PySem.W.keepIn K (.ref f) = true ∧ Binds K fd ps [] ∧ ∀ k, FnOk P w K mg base CX0 (k + L) f fd ps sp
section
variable {P : Program} {w : World} {K : PySem.W.Frag} {mg : Str → Option Value} {base : Heap} {x : Str} {L : Nat} {ps : List Str} {sp : Sp}
theorem Got.at (G : Got P w K mg base x L ps sp) {n : Nat} (h : L ≤ n) : ∃ (f : Addr) (fd : FuncData), mg x = some (.ref f) ∧ PySem.W.keepIn K (.ref f) = true ∧ Binds K fd ps [] ∧ FnOk P w K mg base CX0 n f fd ps sp := by
  obtain ⟨f, fd, h1, h2, h3, h4⟩ := G.ex
  have := h4 (n - L)
  rw [Nat.sub_add_cancel h] at this
  exact ⟨f, fd, h1, h2, h3, this⟩
end
section
variable {X : Cx} {R : ORel} {x : Str} {p pos : Pos} {e : Expr} {es : List Expr} {ps : List Str} {k L : Nat}
theorem pf_callG {g : List D → Option D} {n : Ev → Option (List D)} (G : Got X.prog X.w X.K X.mg X.base x L ps (spP X.K g)) (hr : Room k X.A) (hL : L ≤ k) (hg : Gl X x) (ha : PA X (e :: es) (tAF X.K R n))
    (hd : (x == ("__debug__" : Str)) = false := by decide) (he : starEach (e :: es) X.env = (false, eval e X.env) :: starEach es X.env := by rfl) (hpl : (backTo pos (starEach es X.env)).any (·.1) = false := by rfl) : PE X (.Call (.Name x p) (e :: es) [] pos) (tF X.K R (mC n g)) := by
  obtain ⟨f, fd, h1, h2, h3, h4⟩ := G.at hL
  exact pf_call h4 hr hg h1 h2 h3 ha hd he hpl
theorem e_callG {g : List D → Option D} {n : Ev → Option (List D × Ev)} (G : Got X.prog X.w X.K X.mg X.base x L ps (spP X.K g)) (hr : Room k X.A) (hL : L ≤ k) (hg : Gl X x) (ha : PA X (e :: es) (tAE X.K R n))
    (hd : (x == ("__debug__" : Str)) = false := by decide) (he : starEach (e :: es) X.env = (false, eval e X.env) :: starEach es X.env := by rfl) (hpl : (backTo pos (starEach es X.env)).any (·.1) = false := by rfl) : PE X (.Call (.Name x p) (e :: es) [] pos) (tE X.K R (mCE n g)) := by
  obtain ⟨f, fd, h1, h2, h3, h4⟩ := G.at hL
  exact e_call h4 hr hg h1 h2 h3 ha hd he hpl
theorem e_ioG (i c : Nat) {y : Str} {py : Pos} {g : D → List D → Option (D × D)} {n : Ev → Option (List D × Ev)} (G : Got X.prog X.w X.K X.mg X.base x L ps (spIO X.K R c g)) (hr : Room k X.A) (hL : L ≤ k) (hg : Gl X x) (ha : PA X es (tAE X.K R n))
    (hN : X.N[i]? = some y := by rfl) (hv : Vis X.env.scope y := by first | exact Or.inl rfl | exact Or.inr (Or.inl rfl) | exact Or.inr (Or.inr rfl)) (hyd : (y == ("__debug__" : Str)) = false := by decide) (hcd : (y == ("__classdict__" : Str)) = false := by decide)
    (hd : (x == ("__debug__" : Str)) = false := by decide) (he : starEach (.Name y py :: es) X.env = (false, eval (.Name y py) X.env) :: starEach es X.env := by rfl) (hpl : (backTo pos (starEach es X.env)).any (·.1) = false := by rfl) : PE X (.Call (.Name x p) (.Name y py :: es) [] pos) (tE X.K R (mIO i c n g)) := by
  obtain ⟨f, fd, h1, h2, h3, h4⟩ := G.at hL
  exact e_io i c h4 hr hg h1 h2 h3 ha hN hv hyd hcd hd he hpl
end
section
variable {P : Program} {w : World} {K : PySem.W.Frag} {mg : Str → Option Value} {base : Heap} {R : ORel}
theorem got_P {x qual : Str} {st : Stmt} {f : Addr} {fd : FuncData} {N ps : List Str} {L : Nat} {m : Ev → Option Out} (F : Fun K x qual st f fd) (hm : mg x = some (.ref f)) (B : Binds K fd ps []) (S : FnScope N ps (defScope st))
    (hb : ∀ (k : Nat) (cdv : Value) (A : Around) (outer : List Env) (s : Shared) (H : Hp) (E : XK), Room (k + L) (A.deeper (envOfC qual (defScope st) s.heap.objs.size f cdv)) → PSs (cxOf CX0 P w K mg base N qual (defScope st) f cdv A outer s H E).nox (defBody st) (tS K R m)) :
    Got P w K mg base x (L + 1) ps (spP K (mFun N.length ps.length m)) := ⟨f, fd, hm, F.kp, B, fun k => fn_okP F S (hb k)⟩
theorem got_IO {x qual : Str} {st : Stmt} {f : Addr} {fd : FuncData} {N ps : List Str} {L c : Nat} {m : Ev → Option Out} (F : Fun K x qual st f fd) (hm : mg x = some (.ref f)) (B : Binds K fd ps []) (S : FnScope N ps (defScope st))
    (hb : ∀ (k : Nat) (cdv : Value) (A : Around) (outer : List Env) (s : Shared) (H : Hp) (E : XK), Room (k + L) (A.deeper (envOfC qual (defScope st) s.heap.objs.size f cdv)) → PSs (cxOf CX0 P w K mg base N qual (defScope st) f cdv A outer s H E).nox (defBody st) (tS K R m)) (hN : 1 ≤ N.length := by decide) :
    Got P w K mg base x (L + 1) ps (spIO K R c (mFunIO R c N.length ps.length m)) := ⟨f, fd, hm, F.kp, B, fun k => fn_okIO F S (hb k) hN⟩
/-- a def that calls itself: as deep as n -/
def recD (F : (List D → Option D) → List D → Option D) : Nat → List D → Option D
  | 0 => fun _ => none
  | n + 1 => F (recD F n)
theorem got_rec {x qual : Str} {st : Stmt} {f : Addr} {fd : FuncData} {N ps : List Str} {L : Nat} {m : (List D → Option D) → Ev → Option Out} (F : Fun K x qual st f fd) (hm : mg x = some (.ref f)) (B : Binds K fd ps []) (S : FnScope N ps (defScope st))
    (hb : ∀ (j : Nat) (g : List D → Option D), Got P w K mg base x (L + j + 1) ps (spP K g) → ∀ (k : Nat) (cdv : Value) (A : Around) (outer : List Env) (s : Shared) (H : Hp) (E : XK), Room (k + (L + j + 1)) (A.deeper (envOfC qual (defScope st) s.heap.objs.size f cdv)) → PSs (cxOf CX0 P w K mg base N qual (defScope st) f cdv A outer s H E).nox (defBody st) (tS K R (m g))) :
    ∀ j : Nat, Got P w K mg base x (L + j + 1) ps (spP K (recD (fun g => mFun N.length ps.length (m g)) j))
  | 0 => ⟨f, fd, hm, F.kp, B, fun k => F.ok S (fun vs H Q E h => by obtain ⟨_, _, _, _, _, h, _⟩ := h; cases h) (fun cdv A outer s H vs Q E hr h => by obtain ⟨_, _, _, _, _, h, _⟩ := h; cases h)⟩
  | j + 1 => ⟨f, fd, hm, F.kp, B, fun k => fn_okP F S (hb j _ (got_rec F hm B S hb j) k)⟩
end
/-! ### x.extend(e) -/
theorem list_extend_tup (l : Addr) (items : Array Value) (n : Nat) (b : Addr) (xs2 : Array Value) (n2 : Nat) (dd : Option Addr) (sl : Array (Option Value)) (c0 : ¬(!items.isEmpty && Builtin.List.listTooLong (items.size + xs2.size)) = true) (c1 : items.size ≤ sizeLine) (c2 : items.size + xs2.size ≤ sizeLine + 1) :
    Meets (Builtin.«list.extend» ⟨[.ref l, .ref b], []⟩) (fun _ R s => (s.heap.get? l = some { cls := .type "list", dict := none, data := .seq items n, slots := #[] }) ∧ (s.heap.get? b = some { cls := .type "tuple", dict := dd, data := .seq xs2 n2, slots := sl }) ∧ R (.ok (.ret .none)) { s with heap := s.heap.update l (Obj.mapSeq fun x => x ++ xs2), toks := s.toks }) :=
  .of_wp fun prog w A R s h => by
    obtain ⟨hp, g, d, tk, os⟩ := s; obtain ⟨hl, hb, h⟩ := h
    have f2 := AutoSeq1.idx_int; have f3 := AutoSeq1.sub_tuple_tuple; have f4 := AutoSeq1.sub_list_list; have f5 := AutoSeq1.sub_tuple_list; have f6 := AutoSeq1.sub_list_tuple
    have hz : (items ++ xs2).size ≤ sizeLine + 1 := by rw [Array.size_append]; exact c2
    wp_walk using (wpAny_updateSeq hl rfl (hz := c1) (_hz' := hz)), wpAny_loadPart' hl, wpAny_loadPart' hb
    exact ⟨_, rfl, h⟩
section
variable {X : Cx} {R : ORel}
def rExtA (K : PySem.W.Frag) : V → List V → Hp → VK → Prop := fun x vs H Q => ∃ l b xs zs, x = .ref l ∧ vs = [.ref b] ∧ H l = some (.lst xs) ∧ SqT K H b zs ∧ xs.length + zs.length ≤ sizeLine ∧ Q .non (upd H l (.lst (xs ++ zs)))
theorem mt_extendT : MtM X "list.extend" (rExtA X.K) := by
  intro pins s σ H x vs v us Q I rx rv h
  obtain ⟨l, b, xs, zs, rfl, rfl, hH, hB, hz, q⟩ := h
  cases rx
  obtain ⟨u, rfl, ru⟩ := rv.one
  cases ru
  obtain ⟨z, its, n, r, hl, e⟩ := I.lstM hH
  obtain ⟨its2, r2, ⟨⟨cls, dd, data, sl⟩, ho, hc, n2, hd⟩, hs⟩ := I.tuple hB
  simp only at hc hd
  subst hc hd
  have hl2 := r2.length
  have hsz : its.toArray.size + its2.toArray.size ≤ sizeLine := by rw [List.size_toArray, List.size_toArray]; omega
  have hlong : ¬ (!its.toArray.isEmpty && Builtin.List.listTooLong (its.toArray.size + its2.toArray.size)) = true := by
    rw [notLongL hsz, Bool.and_false]; exact fun z => nomatch z
  refine call_meets F.slot_list_extend ⟨_, e, rfl⟩ F.entry_list_extend (F.args_list_extend_2 _ _) (list_extend_tup l its.toArray n b its2.toArray n2 dd sl hlong (by rw [List.size_toArray]; omega) (by omega)) ⟨e, ho, .non, _, I.lset (its' := its ++ its2) hH e (by simp) (r.append r2) ?_, rfl, q⟩
  rw [List.length_append]; omega
def rExtB (K : PySem.W.Frag) : V → List V → Hp → VK → Prop := fun x vs H Q => rExtend x vs H Q ∨ rExtA K x vs H Q
theorem mt_extendB : MtM X "list.extend" (rExtB X.K) := fun pins s σ H x vs v us Q I rx rv h => h.elim (mt_extend pins s σ H x vs v us Q I rx rv) (mt_extendT pins s σ H x vs v us Q I rx rv)
variable {e : Expr} {ma : Ev → Option (D × Ev)} {pos p apos : Pos}
theorem ms_extend (i : Nat) {x : Str} {px : Pos} (hi : i ≠ 0 := by decide)
    (hpe : PE X (.Call (.Attribute (.Name x px) "extend" apos) [e] [] p) (tBM X.K "list" (rExtB X.K) (tVar i) (tCons (tE X.K R ma) tNil))) (hsw : swapsWith (.Call (.Attribute (.Name x px) "extend" apos) [e] [] p) none pos.line X.env = pure false := by rfl) :
    PS X (.Expr (.Call (.Attribute (.Name x px) "extend" apos) [e] [] p) pos) (tS X.K R (mExt i ma)) := (ps_expr hpe hsw).imp fun E σ H ⟨B, F, w, ρ, o, W, h, q⟩ => by
  obtain ⟨ds0, h0, h⟩ := Option.bind_eq_some_iff.mp h
  obtain ⟨⟨y, ρ1⟩, h1, h⟩ := Option.bind_eq_some_iff.mp h
  obtain ⟨ds, h2, h⟩ := Option.bind_eq_some_iff.mp h
  obtain ⟨a0, vs0, e0, _, g0, _, _⟩ := W.own h0
  refine ⟨_, e0, tyL g0, B, F, w, ρ, y, ρ1, W, h1, fun v F1 w1 H1 W1 E1 r1 => ?_⟩
  obtain ⟨a1, vs, ea, hw, hh, hr, hil⟩ := same_own W1 h2 e0
  cases ea
  split at h
  · split at h
    · rename_i es he hl
      simp only at he
      subst he
      cases h
      cases r1 with
      | lst hs ha => exact .inl ⟨a0, _, vs, _, rfl, rfl, hh, W1.fh _ _ hs, by rw [hr.length, ha.length, ll_line]; exact hl, q F1 w1 σ _ (frs_wr W1 hi hw hh e0 hil (hr.append ha)) E1.ff⟩
    · cases h
  · split at h
    · rename_i es he hl
      simp only at he
      subst he
      cases h
      cases r1 with
      | tup hs ha => exact .inr ⟨a0, _, vs, _, rfl, rfl, hh, same_t W1.fh hs, by rw [hr.length, ha.length, ll_line]; exact hl, q F1 w1 σ _ (frs_wr W1 hi hw hh e0 hil (hr.append ha)) E1.ff⟩
    · cases h
  · cases h
end
end Mi

end
section
set_option maxHeartbeats 2000000
open PySem PySem.Spec PyProof.Rows
namespace Mi
open L2
/-! ### a law's own head: the box is made, then all goes on by mirrors -/
def spBox (K : PySem.W.Frag) : Sp := fun vs H Q _ => ∃ (a : Addr) (ns : List Int), vs = [.ref a] ∧ SqL K H a (ns.map V.int) ∧ ns.length ≤ 63 ∧ ∀ b c H', Same H H' → H b = none → H c = none → H' b = some (.lst [.ref c, .int 0, .int (4711 + ns.length)]) → H' c = some (.lst (ns.map V.int)) → Q (.ref b) H'
def spLaw (K : PySem.W.Frag) : Sp := fun vs H Q _ => ∃ (a : Addr) (ns : List Int), vs = [.ref a] ∧ SqL K H a (ns.map V.int) ∧ ns.length ≤ 63 ∧ ∀ H', Q (.bl true) H'
def tBox (K : PySem.W.Frag) (i : Nat) : TS := fun E σ H => ∃ (a : Addr) (ns : List Int), σ[0]? = some (some (.ref a)) ∧ SqL K H a (ns.map V.int) ∧ ns.length ≤ 63 ∧ ∀ b c H', H' b = some (.lst [.ref c, .int 0, .int (4711 + ns.length)]) → H' c = some (.lst (ns.map V.int)) → E.nx (σ.set i (some (.ref b))) H'
theorem map_cut63 (ns : List Int) (h : ns.length ≤ 63) : cutV (ns.map V.int) none (some 63) = ns.map V.int := by
  unfold cutV
  rw [show HT.sIx (ns.map V.int).length (ns.map V.int).length (some 63) = min 63 (ns.map V.int).length from HT.sIx_nat _ _ 63, HT.sIx_none]
  rw [List.length_map, Nat.min_eq_right h, List.drop_zero, Nat.sub_zero, List.take_of_length_le (by rw [List.length_map]; exact Nat.le_refl _)]
section
variable {X : Cx} {p pf pos px pb : Pos} {k L i : Nat}
theorem ms_box (i : Nat) (hN : X.N.Nodup) (hi : X.N[i]? = some ("box" : Str)) (hx : Loc X.env.scope "box") (G : Got X.prog X.w X.K X.mg X.base "_law_box" L ["script"] (spBox X.K)) (hr : Room k X.A) (hL : L ≤ k) (hg : Gl X "_law_box")
    (h0 : X.N[0]? = some ("script" : Str) := by rfl) (hv : Vis X.env.scope "script" := by first | exact Or.inl rfl | exact Or.inr (Or.inl rfl) | exact Or.inr (Or.inr rfl)) (hf : X.fn ("box" : Str) = true ∨ X.env.scope.names.lookup ("box" : Str) = some .local := by first | exact .inl rfl | exact .inr rfl)
    (he : starEach [.Name "script" px] X.env = (false, eval (.Name "script" px) X.env) :: starEach [] X.env := by rfl)
    (hs : swapsWith (.Call (.Name "_law_box" pf) [.Name "script" px] [] pb) (some (.Name "box" p)) pos.line X.env = pure false := by rfl) :
    PS X (.Assign [.Name "box" p] (.Call (.Name "_law_box" pf) [.Name "script" px] [] pb) pos) (tBox X.K i) := by
  obtain ⟨f, fd, h1, h2, h3, h4⟩ := G.at hL
  refine (ps_set hN hi hx (pe_call h4 hr hg h1 h2 h3 .nil pass0 (pa_cons (pe_var (i := 0) h0 hv (by decide) (by decide)) pa_nil he) (by decide) he rfl) hs hf).imp fun E σ H ⟨a, ns, h1, h2, h3, q⟩ => ?_
  exact ⟨_, h1, a, ns, rfl, h2, h3, fun b c H' _ _ _ hb hc => q b c H' hb hc⟩
def startL (n i b : Nat) (ns : List Int) : Ev := (List.replicate n Sl.no).set i (.ob 1 (boxD b ns 0 (4711 + ns.length)))
variable {P : Program} {w : World} {K : PySem.W.Frag} {mg : Str → Option Value} {base : Heap}
open Classical in
theorem WF.startL {b c : Addr} {ns : List Int} {H' : Hp} {σ : St} {n i : Nat} (hl : σ.length = n) (hi : i < n) (hb : H' b = some (.lst [.ref c, .int 0, .int (4711 + ns.length)])) (hc : H' c = some (.lst (ns.map V.int))) :
    WF K RB ⟨fun _ => none, fun _ => none, fun _ => False⟩ (fun _ => none) (fun x => if x = b ∨ x = c then some i else none) (Mi.startL n i b ns) (σ.set i (some (.ref b))) H' := by
  refine ⟨(fun a u h => nomatch h), (fun a u h => nomatch h), fun a h => absurd rfl h, fun a j h => ?_, (fun a _ o h => nomatch h), fun a h => absurd rfl h, ?_, fun j s h => ?_⟩
  · split at h
    · rename_i h2
      refine ⟨rfl, ?_, .inl rfl⟩
      rcases h2 with h2 | h2
      · subst h2; rw [hb]; exact fun z => nomatch z
      · subst h2; rw [hc]; exact fun z => nomatch z
    · cases h
  · unfold Mi.startL
    rw [List.length_set, List.length_set, List.length_replicate, hl]
  · unfold Mi.startL at h
    rcases getElem?_set_cases h with ⟨rfl, rfl, _⟩ | ⟨hne, h⟩
    · refine ⟨.ref b, List.getElem?_set_self (by rw [hl]; exact hi), b, rfl, if_pos (.inl rfl), rfl, _, _, _, rfl, c, if_pos (.inl rfl), if_pos (.inr rfl), hb, hc⟩
    · rw [List.getElem?_replicate] at h
      split at h
      · cases h; trivial
      · cases h
theorem law_ok {st : Stmt} {f : Addr} {fd : FuncData} {N : List Str} {m : Ev → Option Out} {L i : Nat} (F : Fun K "law" "law" st f fd) (S : FnScope N ["script"] (defScope st)) (hi : i < N.length)
    (hb : ∀ (cdv : Value) (A : Around) (outer : List Env) (s : Shared) (H : Hp) (E : XK), Room L (A.deeper (envOfC "law" (defScope st) s.heap.objs.size f cdv)) → PSs (cxOf CX0 P w K mg base N "law" (defScope st) f cdv A outer s H E).nox (defBody st) (tSeq (tBox K i) (tS K RB m)))
    (hm : ∀ (b : Nat) (ns : List Int), ns.length ≤ 63 → ∃ ρ, m (Mi.startL N.length i b ns) = some (.rt (.bool true) ρ)) : FnOk P w K mg base CX0 (L + 1) f fd ["script"] (spLaw K) := by
  refine F.ok S (fun vs H Q E h => ?_) (fun cdv A outer s H vs Q E hr h => ?_)
  · obtain ⟨a, ns, rfl, _⟩ := h
    rfl
  · obtain ⟨a, ns, rfl, h1, h2, q⟩ := h
    refine ⟨_, hb cdv A outer s H E hr, a, ns, ?_, h1, h2, fun b c H' hb hc => ?_⟩
    · unfold L2.start
      rfl
    · obtain ⟨ρ, hρ⟩ := hm b ns h2
      have hl : (L2.start N [V.ref a]).length = N.length := by
        unfold L2.start
        rw [List.length_append, List.length_map, List.length_replicate]
        simp only [List.length_cons, List.length_nil]
        omega
      exact ⟨_, _, _, _, _, WF.startL hl hi hb hc, hρ, fun v F2 w2 σ2 H2 W2 _ rv => by cases rv; exact q H2⟩
end
end Mi

end
section
set_option maxHeartbeats 2000000
open PySem PySem.Spec PyProof.Rows
namespace Mi
open L2
section
variable {X : Cx} {R : ORel} {e a b c tg iter : Expr} {es : List Expr} {m me : Ev → Option D} {ma mb mc : Ev → Option (D × Ev)} {pos pos' p tpos apos : Pos}
theorem ms_app (i : Nat) {x : Str} {px : Pos} (ha : PE X e (tE X.K R ma)) (hi : i ≠ 0 := by decide) (hN : X.N[i]? = some x := by rfl) (hv : Vis X.env.scope x := by first | exact Or.inl rfl | exact Or.inr (Or.inl rfl) | exact Or.inr (Or.inr rfl)) (hd : (x == ("__debug__" : Str)) = false := by decide) (hcd : (x == ("__classdict__" : Str)) = false := by decide)
    (hs : starEach [e] X.env = (false, eval e X.env) :: starEach [] X.env := by rfl) (hba : attributeBase (.Name x px) "append" X.env (eval (.Name x px) X.env) = eval (.Name x px) X.env := by rfl) (hfw : ((backTo p (starEach [e] X.env)).all (fun x => !x.1) && (backToKw p (keywordEach [] X.env)).all (fun x => x.1.isSome) && decide ([e].length + ([] : List Keyword).length + (if ([] : List Keyword).isEmpty then 0 else 1) < 30)) = true := by rfl) (hln : (apos.endLine == p.line) = true := by rfl) (hpl : (backTo p (starEach [] X.env)).any (·.1) = false := by rfl) (hsw : swapsWith (.Call (.Attribute (.Name x px) "append" apos) [e] [] p) none pos.line X.env = pure false := by rfl) :
    PS X (.Expr (.Call (.Attribute (.Name x px) "append" apos) [e] [] p) pos) (tS X.K R (mApp i ma)) :=
  ms_append i ha hi hN hv hd hcd hs (pe_bm PySem.F.plainAttrs_list PySem.F.slot_list_append PySem.F.type_list_append mt_append (pe_var hN hv hd hcd) (pa_cons ha pa_nil hs) hba hfw hln hs hpl) hsw
theorem ms_ext (i : Nat) {x : Str} {px : Pos} (ha : PE X e (tE X.K R ma)) (hi : i ≠ 0 := by decide) (hN : X.N[i]? = some x := by rfl) (hv : Vis X.env.scope x := by first | exact Or.inl rfl | exact Or.inr (Or.inl rfl) | exact Or.inr (Or.inr rfl)) (hd : (x == ("__debug__" : Str)) = false := by decide) (hcd : (x == ("__classdict__" : Str)) = false := by decide)
    (hs : starEach [e] X.env = (false, eval e X.env) :: starEach [] X.env := by rfl) (hba : attributeBase (.Name x px) "extend" X.env (eval (.Name x px) X.env) = eval (.Name x px) X.env := by rfl) (hfw : ((backTo p (starEach [e] X.env)).all (fun x => !x.1) && (backToKw p (keywordEach [] X.env)).all (fun x => x.1.isSome) && decide ([e].length + ([] : List Keyword).length + (if ([] : List Keyword).isEmpty then 0 else 1) < 30)) = true := by rfl) (hln : (apos.endLine == p.line) = true := by rfl) (hpl : (backTo p (starEach [] X.env)).any (·.1) = false := by rfl) (hsw : swapsWith (.Call (.Attribute (.Name x px) "extend" apos) [e] [] p) none pos.line X.env = pure false := by rfl) :
    PS X (.Expr (.Call (.Attribute (.Name x px) "extend" apos) [e] [] p) pos) (tS X.K R (mExt i ma)) :=
  ms_extend i hi (pe_bm PySem.F.plainAttrs_list PySem.F.slot_list_extend PySem.F.type_list_extend mt_extendB (pe_var hN hv hd hcd) (pa_cons ha pa_nil hs) hba hfw hln hs hpl) hsw
theorem ms_p2 {n : Ev → Option (List SV × Ev)} {i j : Nat} {x y : Str} {px py pt : Pos} {kt k2 pt2} (hc : X.calm = true) (hN : X.N.Nodup) (hi : X.N[i]? = some x) (hj : X.N[j]? = some y) (hij : i ≠ j)
    (hx : X.env.scope.names.lookup x = some .local) (hy : X.env.scope.names.lookup y = some .local) (ha : PA X [a, b] (tAS X.K R n))
    (hw : swappedStores [.Tuple [.Name x px, .Name y py] kt pt] (.Tuple [a, b] k2 pt2) X.env = pure (some [x, y]) := by rfl) (hs : swapsWithSole [.Tuple [.Name x px, .Name y py] kt pt] (.Tuple [a, b] k2 pt2) pos.line X.env = pure false := by rfl) :
    PS X (.Assign [.Tuple [.Name x px, .Name y py] kt pt] (.Tuple [a, b] k2 pt2) pos) (tS X.K R (mPar [i, j] n)) := ms_par2 hc hN hi hj hij hx hy ha (ps_par hc hN hi hj hij hx hy ha hw hs)
theorem ms_p3 {n : Ev → Option (List SV × Ev)} {i j l : Nat} {x y z : Str} {px py pz pt : Pos} {kt k2 pt2} (hc : X.calm = true) (hN : X.N.Nodup) (hi : X.N[i]? = some x) (hj : X.N[j]? = some y) (hl : X.N[l]? = some z) (hij : i ≠ j) (hil : i ≠ l) (hjl : j ≠ l)
    (hx : X.env.scope.names.lookup x = some .local) (hy : X.env.scope.names.lookup y = some .local) (hz : X.env.scope.names.lookup z = some .local) (ha : PA X [a, b, c] (tAS X.K R n))
    (hw : swappedStores [.Tuple [.Name x px, .Name y py, .Name z pz] kt pt] (.Tuple [a, b, c] k2 pt2) X.env = pure (some [x, y, z]) := by rfl) (hs : swapsWithSole [.Tuple [.Name x px, .Name y py, .Name z pz] kt pt] (.Tuple [a, b, c] k2 pt2) pos.line X.env = pure false := by rfl) :
    PS X (.Assign [.Tuple [.Name x px, .Name y py, .Name z pz] kt pt] (.Tuple [a, b, c] k2 pt2) pos) (tS X.K R (mPar [i, j, l] n)) := ms_par3 (ps_par3 hc hN hi hj hl hij hil hjl hx hy hz ha hw hs)
end
end Mi

end
section
set_option maxHeartbeats 2000000
open PySem PySem.Spec PyProof.Rows
namespace Mi
open L2
/-! ### mirrors computed: what must hold ahead -/
def wP {α : Type} (m : Ev → Option α) (ρ : Ev) (Q : α → Prop) : Prop := ∃ a, m ρ = some a ∧ Q a
def wE {α : Type} (m : Ev → Option (α × Ev)) (ρ : Ev) (Q : α → Ev → Prop) : Prop := ∃ x, m ρ = some x ∧ Q x.1 x.2
def wS (m : Ev → Option Out) (ρ : Ev) (Q : Out → Prop) : Prop := ∃ o, m ρ = some o ∧ Q o
def wO {α : Type} (x : Option α) (Q : α → Prop) : Prop := ∃ a, x = some a ∧ Q a
section
variable {α β : Type} {ρ : Ev}
theorem wP.mono {m : Ev → Option α} {Q Q' : α → Prop} (h : wP m ρ Q) (k : ∀ a, Q a → Q' a) : wP m ρ Q' := by
  obtain ⟨a, h1, h2⟩ := h; exact ⟨a, h1, k a h2⟩
theorem wE.mono {m : Ev → Option (α × Ev)} {Q Q' : α → Ev → Prop} (h : wE m ρ Q) (k : ∀ a ρ', Q a ρ' → Q' a ρ') : wE m ρ Q' := by
  obtain ⟨x, h1, h2⟩ := h; exact ⟨x, h1, k _ _ h2⟩
theorem wS.mono {m : Ev → Option Out} {Q Q' : Out → Prop} (h : wS m ρ Q) (k : ∀ a, Q a → Q' a) : wS m ρ Q' := by
  obtain ⟨a, h1, h2⟩ := h; exact ⟨a, h1, k a h2⟩
theorem wO_some {a : α} {Q : α → Prop} : wO (some a) Q ↔ Q a := by simp [wO]
theorem wO_ite {c : Prop} [Decidable c] {a : α} {Q : α → Prop} : wO (if c then some a else none) Q ↔ c ∧ Q a := by
  by_cases h : c <;> simp [wO, h]
theorem wO_bind {x : Option α} {f : α → Option β} {Q : β → Prop} : wO (x.bind f) Q ↔ wO x fun a => wO (f a) Q := by
  cases x <;> simp [wO]
theorem wO_map {x : Option α} {f : α → β} {Q : β → Prop} : wO (x.map f) Q ↔ wO x fun a => Q (f a) := by
  cases x <;> simp [wO]
/-! data -/
theorem wP_con {a : α} {Q : α → Prop} : wP (fun _ => some a) ρ Q ↔ Q a := by simp [wP]
theorem wP_getF {i : Nat} {Q : D → Prop} : wP (getF i) ρ Q ↔ match ρ[i]? with | some (.fr d) => Q d | _ => False := by
  unfold wP getF
  split <;> simp_all
theorem wP_getT {i : Nat} {Q : D → Prop} : wP (getT i) ρ Q ↔ match ρ[i]? with | some (.fr d) => Q d | some (.ow (.list ds)) => Q (.list ds) | _ => False := by
  unfold wP getT
  split <;> simp_all
theorem wP_m2 {g : D → D → Option D} {a b : Ev → Option D} {Q : D → Prop} : wP (m2 g a b) ρ Q ↔ wP a ρ fun x => wP b ρ fun y => wO (g x y) Q := by
  unfold wP m2 wO
  cases a ρ <;> cases b ρ <;> simp
theorem wP_m1 {g : D → Option D} {a : Ev → Option D} {Q : D → Prop} : wP (m1 g a) ρ Q ↔ wP a ρ fun x => wO (g x) Q := by
  unfold wP m1 wO
  cases a ρ <;> simp
theorem wP_mC {n : Ev → Option (List D)} {g : List D → Option α} {Q : α → Prop} : wP (mC n g) ρ Q ↔ wP n ρ fun x => wO (g x) Q := by
  unfold wP mC wO
  cases n ρ <;> simp
theorem wP_mCons {m : Ev → Option D} {n : Ev → Option (List D)} {Q : List D → Prop} : wP (mCons m n) ρ Q ↔ wP m ρ fun x => wP n ρ fun xs => Q (x :: xs) := by
  unfold wP mCons
  cases m ρ <;> cases n ρ <;> simp
theorem wP_mTup {n : Ev → Option (List D)} {Q : D → Prop} : wP (mTup n) ρ Q ↔ wP n ρ fun x => x.length ≤ LL ∧ Q (.tuple x) := by
  unfold wP mTup
  cases h : n ρ with
  | none => simp
  | some x => by_cases hx : x.length ≤ LL <;> simp [hx]
theorem wP_mLim {n : Ev → Option (List D)} {Q : List D → Prop} : wP (mLim n) ρ Q ↔ wP n ρ fun x => x.length ≤ LL ∧ Q x := by
  unfold wP mLim
  cases h : n ρ with
  | none => simp
  | some x => by_cases hx : x.length ≤ LL <;> simp [hx]
theorem wP_mList {n : Ev → Option (List D)} {Q : D → Prop} : wP (mList n) ρ Q ↔ wP n ρ fun x => Q (.list x) := by
  unfold wP mList
  cases n ρ <;> simp
theorem wP_mIt {m : Ev → Option D} {Q : List D → Prop} : wP (mIt m) ρ Q ↔ wP m ρ fun x => wO (itemsD x) Q := by
  unfold wP mIt wO
  cases m ρ <;> simp
theorem wP_mIf {t : Ev → Option Bool} {a b : Ev → Option α} {Q : α → Prop} : wP (mIf t a b) ρ Q ↔ wP t ρ fun c => if c = true then wP a ρ Q else wP b ρ Q := by
  unfold wP mIf
  cases t ρ with
  | none => simp
  | some c => cases c <;> simp
theorem wP_mBl {m : Ev → Option D} {Q : Bool → Prop} : wP (mBl m) ρ Q ↔ wP m ρ fun x => match x with | .bool c => Q c | _ => False := by
  unfold wP mBl
  cases m ρ with
  | none => simp
  | some d => cases d <;> simp
theorem wP_mTru {m : Ev → Option D} {Q : Bool → Prop} : wP (mTru m) ρ Q ↔ wP m ρ fun x => wO (truthD x) Q := by
  unfold wP mTru wO
  cases m ρ <;> simp
theorem wP_mNotB {t : Ev → Option Bool} {Q : Bool → Prop} : wP (mNotB t) ρ Q ↔ wP t ρ fun c => Q (!c) := by
  unfold wP mNotB
  cases t ρ with
  | none => simp
  | some c => cases c <;> simp
theorem wP_mAndB {t u : Ev → Option Bool} {Q : Bool → Prop} : wP (mAndB t u) ρ Q ↔ wP t ρ fun c => if c = true then wP u ρ Q else Q false := by
  unfold wP mAndB
  cases t ρ with
  | none => simp
  | some c => cases c <;> simp
theorem wP_mOrB {t u : Ev → Option Bool} {Q : Bool → Prop} : wP (mOrB t u) ρ Q ↔ wP t ρ fun c => if c = true then Q true else wP u ρ Q := by
  unfold wP mOrB
  cases t ρ with
  | none => simp
  | some c => cases c <;> simp
theorem wP_mNot {m : Ev → Option D} {Q : D → Prop} : wP (mNot m) ρ Q ↔ wP m ρ fun x => match x with | .bool c => Q (.bool !c) | _ => False := by
  unfold wP mNot
  cases m ρ with
  | none => simp
  | some d => cases d <;> simp
theorem wP_mAnd {m n : Ev → Option D} {Q : D → Prop} : wP (mAnd m n) ρ Q ↔ wP m ρ fun x => match x with | .bool c => if c = true then wP n ρ Q else Q (.bool false) | _ => False := by
  unfold wP mAnd
  cases m ρ with
  | none => simp
  | some d => cases d <;> simp <;> (rename_i b; cases b <;> simp)
theorem wP_mOr {m n : Ev → Option D} {Q : D → Prop} : wP (mOr m n) ρ Q ↔ wP m ρ fun x => match x with | .bool c => if c = true then Q (.bool true) else wP n ρ Q | _ => False := by
  unfold wP mOr
  cases m ρ with
  | none => simp
  | some d => cases d <;> simp <;> (rename_i b; cases b <;> simp)
theorem wP_mIsi {k : Kd} {m : Ev → Option D} {Q : D → Prop} : wP (mIsi k m) ρ Q ↔ wP m ρ fun x => wO (isKd k x) Q := by
  unfold wP mIsi wO
  cases m ρ <;> simp
theorem wP_part {m : Ev → Option D} {Q : Option Int → Prop} : wP (fun ρ => (m ρ).bind fun d => partD (some d)) ρ Q ↔ wP m ρ fun x => wO (partD (some x)) Q := by
  unfold wP wO
  cases h : m ρ <;> simp [h]
theorem wP_mSl {m : Ev → Option D} {l h : Ev → Option (Option Int)} {Q : D → Prop} : wP (mSl m l h) ρ Q ↔ wP m ρ fun x => wP l ρ fun i => wP h ρ fun j => wO (slD x i j) Q := by
  unfold wP mSl wO
  cases m ρ <;> cases l ρ <;> cases h ρ <;> simp
theorem wP_enum {m : Ev → Option (List D)} {Q : List D → Prop} : wP (fun ρ => (m ρ).map enumL) ρ Q ↔ wP m ρ fun x => Q (enumL x) := by
  unfold wP
  cases h : m ρ <;> simp [h]
theorem wP_mZip {a b : Ev → Option D} {Q : List D → Prop} : wP (mZip a b) ρ Q ↔ wP a ρ fun x => wP b ρ fun y => wO (itemsD x) fun xs => wO (itemsD y) fun ys => Q (zipL xs ys) := by
  unfold wP mZip wO
  cases a ρ with
  | none => simp
  | some x =>
    cases b ρ with
    | none => simp
    | some y =>
      cases h1 : itemsD x <;> cases h2 : itemsD y <;> simp [h1, h2]
theorem wP_mChain {g g' : D → D → Option D} {a b c : Ev → Option D} {Q : D → Prop} : wP (mChain g g' a b c) ρ Q ↔ wP a ρ fun x => wP b ρ fun y => wO (g x y) fun z => match z with | .bool true => wP c ρ fun w => wO (g' y w) Q | .bool false => Q (.bool false) | _ => False := by
  unfold wP mChain wO
  cases a ρ with
  | none => simp
  | some x =>
    cases b ρ with
    | none => simp
    | some y =>
      simp only [Option.bind_some, Option.some.injEq, exists_eq_left']
      cases g x y with
      | none => simp
      | some z =>
        cases z <;> simp
        rename_i q
        cases q <;> simp
        cases c ρ <;> simp
theorem wP_mLc {vs : List Nat} {mi : Ev → Option (List D)} {mg : D → Ev → Option Ev} {mt : Ev → Option Bool} {me : Ev → Option D} {Q : List D → Prop} : wP (mLc vs mi mg mt me) ρ Q ↔ wP mi ρ fun ds => ds.length ≤ LL ∧ wO (lcGo vs mg mt me ρ ds) Q := by
  unfold wP mLc wO
  cases mi ρ with
  | none => simp
  | some ds => by_cases hx : ds.length ≤ LL <;> simp [hx]
/-! with effects -/
theorem wE_mE {m : Ev → Option α} {Q : α → Ev → Prop} : wE (mE m) ρ Q ↔ wP m ρ fun a => Q a ρ := by
  unfold wE mE wP
  cases m ρ <;> simp
theorem wE_m2E {g : D → D → Option D} {a b : Ev → Option (D × Ev)} {Q : D → Ev → Prop} : wE (m2E g a b) ρ Q ↔ wE a ρ fun x ρ1 => wE b ρ1 fun y ρ2 => wO (g x y) fun z => Q z ρ2 := by
  constructor
  · rintro ⟨⟨z, ρ2⟩, h, q⟩
    obtain ⟨⟨x, ρ1⟩, h1, h⟩ := Option.bind_eq_some_iff.mp h
    obtain ⟨⟨y, ρ3⟩, h2, h⟩ := Option.bind_eq_some_iff.mp h
    obtain ⟨z', h3, h⟩ := Option.map_eq_some_iff.mp h
    cases h
    exact ⟨_, h1, _, h2, _, h3, q⟩
  · rintro ⟨⟨x, ρ1⟩, h1, ⟨y, ρ2⟩, h2, z, h3, q⟩
    exact ⟨(z, ρ2), by simp only at h2 h3; simp [m2E, h1, h2, h3], q⟩
theorem wE_m1E {g : D → Option D} {a : Ev → Option (D × Ev)} {Q : D → Ev → Prop} : wE (m1E g a) ρ Q ↔ wE a ρ fun x ρ1 => wO (g x) fun z => Q z ρ1 := by
  unfold wE m1E wO
  cases a ρ with
  | none => simp
  | some x =>
    obtain ⟨x, ρ1⟩ := x
    cases h2 : g x <;> simp [h2]
theorem wE_mCE {n : Ev → Option (α × Ev)} {g : α → Option β} {Q : β → Ev → Prop} : wE (mCE n g) ρ Q ↔ wE n ρ fun x ρ1 => wO (g x) fun z => Q z ρ1 := by
  unfold wE mCE wO
  cases n ρ with
  | none => simp
  | some x =>
    obtain ⟨x, ρ1⟩ := x
    cases h2 : g x <;> simp [h2]
theorem wE_nil {Q : List α → Ev → Prop} : wE (fun ρ => some ([], ρ)) ρ Q ↔ Q [] ρ := by simp [wE]
theorem wE_true {Q : Bool → Ev → Prop} : wE (fun ρ => some (true, ρ)) ρ Q ↔ Q true ρ := by simp [wE]
theorem wE_mConsE {m : Ev → Option (D × Ev)} {n : Ev → Option (List D × Ev)} {Q : List D → Ev → Prop} : wE (mConsE m n) ρ Q ↔ wE m ρ fun x ρ1 => wE n ρ1 fun xs ρ2 => Q (x :: xs) ρ2 := by
  constructor
  · rintro ⟨⟨z, ρ2⟩, h, q⟩
    obtain ⟨⟨x, ρ1⟩, h1, h⟩ := Option.bind_eq_some_iff.mp h
    obtain ⟨⟨y, ρ3⟩, h2, h⟩ := Option.map_eq_some_iff.mp h
    cases h
    exact ⟨_, h1, _, h2, q⟩
  · rintro ⟨⟨x, ρ1⟩, h1, ⟨y, ρ2⟩, h2, q⟩
    exact ⟨(_, ρ2), by simp only at h2; simp [mConsE, h1, h2], q⟩
theorem wE_mConsS {m : Ev → Option (D × Ev)} {n : Ev → Option (List SV × Ev)} {Q : List SV → Ev → Prop} : wE (mConsS m n) ρ Q ↔ wE m ρ fun x ρ1 => wE n ρ1 fun xs ρ2 => Q (.f x :: xs) ρ2 := by
  constructor
  · rintro ⟨⟨z, ρ2⟩, h, q⟩
    obtain ⟨⟨x, ρ1⟩, h1, h⟩ := Option.bind_eq_some_iff.mp h
    obtain ⟨⟨y, ρ3⟩, h2, h⟩ := Option.map_eq_some_iff.mp h
    cases h
    exact ⟨_, h1, _, h2, q⟩
  · rintro ⟨⟨x, ρ1⟩, h1, ⟨y, ρ2⟩, h2, q⟩
    exact ⟨(_, ρ2), by simp only at h2; simp [mConsS, h1, h2], q⟩
theorem wE_mConsN {m : Ev → Option (List D)} {n : Ev → Option (List SV × Ev)} {Q : List SV → Ev → Prop} : wE (mConsN m n) ρ Q ↔ wP m ρ fun x => wE n ρ fun xs ρ2 => Q (.n x :: xs) ρ2 := by
  unfold wE mConsN wP
  cases m ρ with
  | none => simp
  | some x => cases h : n ρ <;> simp [h]
theorem wE_mIfE {t : Ev → Option (Bool × Ev)} {a b : Ev → Option (α × Ev)} {Q : α → Ev → Prop} : wE (mIfE t a b) ρ Q ↔ wE t ρ fun c ρ1 => if c = true then wE a ρ1 Q else wE b ρ1 Q := by
  unfold wE mIfE
  cases t ρ with
  | none => simp
  | some c => obtain ⟨c, ρ1⟩ := c; cases c <;> simp
theorem wE_mTruE {m : Ev → Option (D × Ev)} {Q : Bool → Ev → Prop} : wE (mTruE m) ρ Q ↔ wE m ρ fun x ρ1 => wO (truthD x) fun c => Q c ρ1 := by
  constructor
  · rintro ⟨⟨z, ρ2⟩, h, q⟩
    obtain ⟨⟨x, ρ1⟩, h1, h⟩ := Option.bind_eq_some_iff.mp h
    obtain ⟨y, h2, h⟩ := Option.map_eq_some_iff.mp h
    cases h
    exact ⟨_, h1, _, h2, q⟩
  · rintro ⟨⟨x, ρ1⟩, h1, y, h2, q⟩
    exact ⟨(y, ρ1), by simp only at h2; simp [mTruE, h1, h2], q⟩
theorem wE_mBlE {m : Ev → Option (D × Ev)} {Q : Bool → Ev → Prop} : wE (mBlE m) ρ Q ↔ wE m ρ fun x ρ1 => wO (blD x) fun c => Q c ρ1 := by
  constructor
  · rintro ⟨⟨z, ρ2⟩, h, q⟩
    obtain ⟨⟨x, ρ1⟩, h1, h⟩ := Option.bind_eq_some_iff.mp h
    obtain ⟨y, h2, h⟩ := Option.map_eq_some_iff.mp h
    cases h
    exact ⟨_, h1, _, h2, q⟩
  · rintro ⟨⟨x, ρ1⟩, h1, y, h2, q⟩
    exact ⟨(y, ρ1), by simp only at h2; simp [mBlE, h1, h2], q⟩
theorem wE_mNotBE {t : Ev → Option (Bool × Ev)} {Q : Bool → Ev → Prop} : wE (mNotBE t) ρ Q ↔ wE t ρ fun c ρ1 => Q (!c) ρ1 := by
  unfold wE mNotBE
  cases t ρ with
  | none => simp
  | some c => obtain ⟨c, ρ1⟩ := c; cases c <;> simp
theorem wE_mAndBE {t u : Ev → Option (Bool × Ev)} {Q : Bool → Ev → Prop} : wE (mAndBE t u) ρ Q ↔ wE t ρ fun c ρ1 => if c = true then wE u ρ1 Q else Q false ρ1 := by
  unfold wE mAndBE
  cases t ρ with
  | none => simp
  | some c => obtain ⟨c, ρ1⟩ := c; cases c <;> simp
theorem wE_mOrBE {t u : Ev → Option (Bool × Ev)} {Q : Bool → Ev → Prop} : wE (mOrBE t u) ρ Q ↔ wE t ρ fun c ρ1 => if c = true then Q true ρ1 else wE u ρ1 Q := by
  unfold wE mOrBE
  cases t ρ with
  | none => simp
  | some c => obtain ⟨c, ρ1⟩ := c; cases c <;> simp
theorem wE_takeF {i : Nat} {Q : D → Ev → Prop} : wE (takeF i) ρ Q ↔ match ρ[i]? with | some (.fr d) => Q d ρ | some (.ow (.list ds)) => Q (.list ds) (ρ.set i (.fr (.list ds))) | _ => False := by
  unfold wE takeF
  split <;> simp_all
theorem wE_mLcE {vs : List Nat} {mi : Ev → Option (List D × Ev)} {mg : D → Ev → Option Ev} {mt : Ev → Option (Bool × Ev)} {me : Ev → Option (D × Ev)} {Q : List D → Ev → Prop} : wE (mLcE vs mi mg mt me) ρ Q ↔ wE mi ρ fun ds ρ1 => ds.length ≤ LL ∧ wE (lcGoE vs mg mt me ds) ρ1 Q := by
  unfold wE mLcE
  cases mi ρ with
  | none => simp
  | some x => obtain ⟨ds, ρ1⟩ := x; by_cases hx : ds.length ≤ LL <;> simp [hx]
/-! statements -/
theorem wS_mSeq {m n : Ev → Option Out} {Q : Out → Prop} : wS (mSeq m n) ρ Q ↔ wS m ρ fun o => match o with | .nx ρ1 => wS n ρ1 Q | .rt d ρ1 => Q (.rt d ρ1) | .bk ρ1 => Q (.bk ρ1) | .ct ρ1 => Q (.ct ρ1) := by
  unfold wS mSeq
  cases m ρ with
  | none => simp
  | some o => cases o <;> simp
theorem wS_mNext {Q : Out → Prop} : wS mNext ρ Q ↔ Q (.nx ρ) := by simp [wS, mNext]
theorem wS_bk {Q : Out → Prop} : wS (fun ρ => some (.bk ρ)) ρ Q ↔ Q (.bk ρ) := by simp [wS]
theorem wS_ct {Q : Out → Prop} : wS (fun ρ => some (.ct ρ)) ρ Q ↔ Q (.ct ρ) := by simp [wS]
theorem wS_mRet {m : Ev → Option D} {Q : Out → Prop} : wS (mRet m) ρ Q ↔ wP m ρ fun d => Q (.rt d ρ) := by
  unfold wS mRet wP
  cases m ρ <;> simp
theorem wS_mRetE {m : Ev → Option (D × Ev)} {Q : Out → Prop} : wS (mRetE m) ρ Q ↔ wE m ρ fun d ρ1 => Q (.rt d ρ1) := by
  unfold wS mRetE wE
  cases m ρ with
  | none => simp
  | some x => obtain ⟨x, ρ1⟩ := x; simp
theorem wS_mRetN {Q : Out → Prop} : wS mRetN ρ Q ↔ Q (.rt .none ρ) := by simp [wS, mRetN]
theorem wS_mSet {i : Nat} {m : Ev → Option D} {Q : Out → Prop} : wS (mSet i m) ρ Q ↔ wP m ρ fun d => Q (.nx (ρ.set i (.fr d))) := by
  unfold wS mSet wP
  cases m ρ <;> simp
theorem wS_mSetE {i : Nat} {m : Ev → Option (D × Ev)} {Q : Out → Prop} : wS (mSetE i m) ρ Q ↔ wE m ρ fun d ρ1 => Q (.nx (ρ1.set i (.fr d))) := by
  unfold wS mSetE wE
  cases m ρ with
  | none => simp
  | some x => obtain ⟨x, ρ1⟩ := x; simp
theorem wS_mSetN {i : Nat} {m : Ev → Option (List D)} {Q : Out → Prop} : wS (mSetN i m) ρ Q ↔ wP m ρ fun d => Q (.nx (ρ.set i (.ow (.list d)))) := by
  unfold wS mSetN wP
  cases m ρ <;> simp
theorem wS_mSetNE {i : Nat} {m : Ev → Option (List D × Ev)} {Q : Out → Prop} : wS (mSetNE i m) ρ Q ↔ wE m ρ fun d ρ1 => Q (.nx (ρ1.set i (.ow (.list d)))) := by
  unfold wS mSetNE wE
  cases m ρ with
  | none => simp
  | some x => obtain ⟨x, ρ1⟩ := x; simp
theorem wS_mAsg {m : Ev → Option D} {g : D → Ev → Option Ev} {Q : Out → Prop} : wS (mAsg m g) ρ Q ↔ wP m ρ fun d => wO (g d ρ) fun ρ1 => Q (.nx ρ1) := by
  unfold wS mAsg wP wO
  cases m ρ with
  | none => simp
  | some x => cases h : g x ρ <;> simp [h]
theorem wS_mAsgE {m : Ev → Option (D × Ev)} {g : D → Ev → Option Ev} {Q : Out → Prop} : wS (mAsgE m g) ρ Q ↔ wE m ρ fun d ρ1 => wO (g d ρ1) fun ρ2 => Q (.nx ρ2) := by
  unfold wS mAsgE wE wO
  cases m ρ with
  | none => simp
  | some x => obtain ⟨x, ρ1⟩ := x; cases h : g x ρ1 <;> simp [h]
theorem wS_mIfS {t : Ev → Option Bool} {m n : Ev → Option Out} {Q : Out → Prop} : wS (mIfS t m n) ρ Q ↔ wP t ρ fun c => if c = true then wS m ρ Q else wS n ρ Q := by
  unfold wS mIfS wP
  cases t ρ with
  | none => simp
  | some c => cases c <;> simp
theorem wS_mIfSE {t : Ev → Option (Bool × Ev)} {m n : Ev → Option Out} {Q : Out → Prop} : wS (mIfSE t m n) ρ Q ↔ wE t ρ fun c ρ1 => if c = true then wS m ρ1 Q else wS n ρ1 Q := by
  unfold wS mIfSE wE
  cases t ρ with
  | none => simp
  | some c => obtain ⟨c, ρ1⟩ := c; cases c <;> simp
theorem wS_mFor {mi : Ev → Option (List D)} {mg : D → Ev → Option Ev} {mb : Ev → Option Out} {Q : Out → Prop} : wS (mFor mi mg mb) ρ Q ↔ wP mi ρ fun ds => wS (forGo mg mb ds) ρ Q := by
  unfold wS mFor wP
  cases mi ρ <;> simp
theorem wS_mForE {mi : Ev → Option (List D × Ev)} {mg : D → Ev → Option Ev} {mb : Ev → Option Out} {Q : Out → Prop} : wS (mForE mi mg mb) ρ Q ↔ wE mi ρ fun ds ρ1 => wS (forGo mg mb ds) ρ1 Q := by
  unfold wS mForE wE
  cases mi ρ with
  | none => simp
  | some x => obtain ⟨x, ρ1⟩ := x; simp
theorem wS_mPar {is : List Nat} {n : Ev → Option (List SV × Ev)} {Q : Out → Prop} : wS (mPar is n) ρ Q ↔ wE n ρ fun x ρ1 => x.length = is.length ∧ Q (.nx (setAll is x ρ1)) := by
  unfold wS mPar wE
  cases n ρ with
  | none => simp
  | some x => obtain ⟨x, ρ1⟩ := x; by_cases h : x.length = is.length <;> simp [h]
theorem wO_getO {i : Nat} {Q : List D → Prop} : wO (getO i ρ) Q ↔ match ρ[i]? with | some (.ow (.list ds)) => Q ds | _ => False := by
  unfold wO getO
  split <;> simp_all
theorem wS_mApp {i : Nat} {m : Ev → Option (D × Ev)} {Q : Out → Prop} : wS (mApp i m) ρ Q ↔ wO (getO i ρ) fun _ => wE m ρ fun d ρ1 => wO (getO i ρ1) fun ds => ds.length < LL ∧ Q (.nx (ρ1.set i (.ow (.list (ds ++ [d]))))) := by
  unfold wS mApp wE wO
  cases getO i ρ with
  | none => simp
  | some _ =>
    cases m ρ with
    | none => simp
    | some x =>
      obtain ⟨x, ρ1⟩ := x
      cases h : getO i ρ1 with
      | none => simp [h]
      | some ds => by_cases h2 : ds.length < LL <;> simp [h, h2]
theorem wS_mExt {i : Nat} {m : Ev → Option (D × Ev)} {Q : Out → Prop} : wS (mExt i m) ρ Q ↔ wO (getO i ρ) fun _ => wE m ρ fun d ρ1 => wO (getO i ρ1) fun ds => wO (itemsD d) fun es => ds.length + es.length ≤ LL ∧ Q (.nx (ρ1.set i (.ow (.list (ds ++ es))))) := by
  unfold wS mExt wE wO
  cases getO i ρ with
  | none => simp
  | some _ =>
    cases m ρ with
    | none => simp
    | some x =>
      obtain ⟨x, ρ1⟩ := x
      cases h : getO i ρ1 with
      | none => simp [h]
      | some ds =>
        cases x <;> simp [h, itemsD]
        all_goals (rename_i es; by_cases h2 : ds.length + es.length ≤ LL <;> simp [h2])
end
end Mi

end
section
set_option maxHeartbeats 2000000
open PySem PySem.Spec PyProof.Rows
namespace Mi
open L2
/-! ### draws -/
def Bx (b : Nat) (d : D) : Prop := ∃ cs ac sd, d = boxD b cs ac sd ∧ seedOk sd = true
theorem Bx.key {b : Nat} {d : D} (h : Bx b d) : RB.key d = b := by
  obtain ⟨cs, ac, sd, rfl, _⟩ := h
  exact Int.toNat_natCast b
theorem Bx.draw {b : Nat} {d : D} {n : Int} (h : Bx b d) (h1 : 0 < n) (h2 : n < 1073741824) : ∃ v d', drawD d [.int n] = some (.int v, d') ∧ 0 ≤ v ∧ v < n ∧ Bx b d' := by
  obtain ⟨cs, ac, sd, rfl, hs⟩ := h
  have hr := draw_range cs ac sd n h1
  exact ⟨_, _, drawD_box b cs ac sd n hs h1 h2, hr.1, hr.2, _, _, _, rfl, seed_draw _ _ _ _ hs⟩
theorem bx_start (b : Nat) (ns : List Int) (h : ns.length ≤ 63) : Bx b (boxD b ns 0 (4711 + ns.length)) := by
  refine ⟨_, _, _, rfl, ?_⟩
  rw [seedOk, decide_eq_true (by omega), decide_eq_true (by omega)]; rfl
/-- a call with the box -/
theorem wE_io {i c : Nat} {n : Ev → Option (List D × Ev)} {g : D → List D → Option (D × D)} {ρ : Ev} {Q : D → Ev → Prop} (h0 : ∃ c d, ρ[i]? = some (.ob c d)) : wE (mIO i c n g) ρ Q ↔ wE n ρ fun as ρ1 => match ρ1[i]? with | some (.ob c' d0) => c' = c ∧ wO (g d0 as) fun z => Q z.1 (ρ1.set i (.ob c z.2)) | _ => False := by
  obtain ⟨c0, d00, h0⟩ := h0
  constructor
  · rintro ⟨⟨z, ρ2⟩, h, q⟩
    unfold mIO at h
    rw [h0] at h
    obtain ⟨⟨as, ρ1⟩, h1, h⟩ := Option.bind_eq_some_iff.mp h
    refine ⟨_, h1, ?_⟩
    simp only at h ⊢
    split at h
    · rename_i c' d0 h2
      split at h
      · rename_i hc
        obtain ⟨y, h3, h⟩ := Option.map_eq_some_iff.mp h
        cases h
        try simp only [h2]
        exact ⟨hc, y, h3, q⟩
      · cases h
    · cases h
  · rintro ⟨⟨as, ρ1⟩, h1, h⟩
    simp only at h
    split at h
    · rename_i c' d0 h2
      obtain ⟨rfl, y, h3, q⟩ := h
      refine ⟨(y.1, ρ1.set i (.ob c' y.2)), ?_, q⟩
      unfold mIO
      rw [h0]
      simp only [h1, Option.bind_some, h2, if_true, h3, Option.map_some]
    · exact absurd h id
theorem wO_draw {b : Nat} {d : D} {n : Int} {Q : D × D → Prop} (h : Bx b d) (h1 : 0 < n) (h2 : n < 1073741824) (q : ∀ v d', 0 ≤ v → v < n → Bx b d' → Q (.int v, d')) : wO (drawD d [.int n]) Q := by
  obtain ⟨v, d', e, h3, h4, h5⟩ := h.draw h1 h2
  exact ⟨_, e, q v d' h3 h4 h5⟩
/-! ### defs -/
theorem wO_fun {n a : Nat} {m : Ev → Option Out} {ds : List D} {Q : D → Prop} (hl : ds.length = a) (h : wS m (startE n ds) fun o => wO (outD o) Q) : wO (mFun n a m ds) Q := by
  obtain ⟨o, h1, d, h2, q⟩ := h
  refine ⟨d, ?_, q⟩
  unfold mFun
  rw [if_pos hl, h1]
  exact h2
theorem wO_funIO {b n a : Nat} {m : Ev → Option Out} {d0 : D} {ds : List D} {Q : D × D → Prop} (hb : Bx b d0) (hl : ds.length + 1 = a) (h : wS m (.ob 1 d0 :: startE (n - 1) ds) fun o => match o with
    | .nx (.ob c d1 :: ρ) => c = 1 ∧ Bx b d1 ∧ Q (.none, d1)
    | .rt d (.ob c d1 :: ρ) => c = 1 ∧ Bx b d1 ∧ Q (d, d1)
    | _ => False) : wO (mFunIO RB 1 n a m d0 ds) Q := by
  obtain ⟨o, h1, h2⟩ := h
  unfold mFunIO
  rw [if_pos hl, h1]
  cases o with
  | nx ρ =>
    match ρ, h2 with
    | .ob c d1 :: ρ, ⟨hc, hb1, q⟩ =>
      refine ⟨_, ?_, q⟩
      show (if c = 1 ∧ RB.key d1 = RB.key d0 then some (PyData.none, d1) else none) = _
      rw [if_pos ⟨hc, hb1.key.trans hb.key.symm⟩]
  | rt d ρ =>
    match ρ, h2 with
    | .ob c d1 :: ρ, ⟨hc, hb1, q⟩ =>
      refine ⟨_, ?_, q⟩
      show (if c = 1 ∧ RB.key d1 = RB.key d0 then some (d, d1) else none) = _
      rw [if_pos ⟨hc, hb1.key.trans hb.key.symm⟩]
  | bk ρ => exact absurd h2 id
  | ct ρ => exact absurd h2 id
/-! ### loops and comprehensions -/
/-- what a turn of a loop leaves -/
def onTurn (I : Ev → Prop) (B : Ev → Prop) (T : D → Ev → Prop) : Out → Prop
  | .nx ρ => I ρ
  | .ct ρ => I ρ
  | .bk ρ => B ρ
  | .rt d ρ => T d ρ
theorem wS_forGo {mg : D → Ev → Option Ev} {mb : Ev → Option Out} {Q : Out → Prop} (I : Nat → Ev → Prop) : ∀ {ds : List D} {ρ : Ev} (k : Nat), I k ρ →
    (∀ i d ρ, ds[i]? = some d → I (k + i) ρ → wO (mg d ρ) fun ρ1 => wS mb ρ1 (onTurn (I (k + i + 1)) (fun ρ => Q (.nx ρ)) (fun d ρ => Q (.rt d ρ)))) → (∀ ρ, I (k + ds.length) ρ → Q (.nx ρ)) → wS (forGo mg mb ds) ρ Q
  | [], ρ, k, h0, hs, he => ⟨_, rfl, he ρ h0⟩
  | d :: ds, ρ, k, h0, hs, he => by
    obtain ⟨ρ1, h1, o, h2, h3⟩ := hs 0 d ρ rfl h0
    have go : ∀ ρ2, I (k + 1) ρ2 → wS (forGo mg mb ds) ρ2 Q := fun ρ2 h => wS_forGo I (k + 1) h (fun i d ρ hd hi => by
      have := hs (i + 1) d ρ (by simpa using hd) (by rw [show k + (i + 1) = k + 1 + i by omega]; exact hi)
      rw [show k + (i + 1) = k + 1 + i by omega] at this
      exact this) (fun ρ hi => he ρ (by rw [List.length_cons, show k + (ds.length + 1) = k + 1 + ds.length by omega]; exact hi))
    cases o with
    | nx ρ2 =>
      obtain ⟨o', h4, q⟩ := go ρ2 h3
      exact ⟨o', by unfold forGo; rw [h1]; show (mb ρ1).bind _ = _; rw [h2]; exact h4, q⟩
    | ct ρ2 =>
      obtain ⟨o', h4, q⟩ := go ρ2 h3
      exact ⟨o', by unfold forGo; rw [h1]; show (mb ρ1).bind _ = _; rw [h2]; exact h4, q⟩
    | bk ρ2 => exact ⟨_, by unfold forGo; rw [h1]; show (mb ρ1).bind _ = _; rw [h2]; rfl, h3⟩
    | rt d ρ2 => exact ⟨_, by unfold forGo; rw [h1]; show (mb ρ1).bind _ = _; rw [h2]; rfl, h3⟩
theorem wO_lcGo {vs : List Nat} {mg : D → Ev → Option Ev} {mt : Ev → Option Bool} {me : Ev → Option D} {ρ : Ev} {Q : List D → Prop} (p : D → Bool) (f : D → D) : ∀ {ds : List D},
    (∀ d ∈ ds, wO (mg d (wipeE ρ vs)) fun ρ1 => wP mt ρ1 fun c => c = p d ∧ (c = true → wP me ρ1 fun v => v = f d)) → Q ((ds.filter p).map f) → wO (lcGo vs mg mt me ρ ds) Q := by
  intro ds h q
  refine ⟨_, ?_, q⟩
  clear q
  induction ds with
  | nil => rfl
  | cons d ds ih =>
    obtain ⟨ρ1, h1, c, h2, hc, h3⟩ := h d List.mem_cons_self
    have ih := ih (fun x hx => h x (List.mem_cons_of_mem _ hx))
    unfold lcGo
    rw [h1]
    show (mt ρ1).bind _ = _
    rw [h2]
    cases c with
    | true =>
      obtain ⟨v, h4, rfl⟩ := h3 rfl
      show (me ρ1).bind _ = _
      rw [h4]
      show (lcGo vs mg mt me ρ ds).map _ = _
      rw [List.filter_cons_of_pos hc.symm]
      rw [ih]; rfl
    | false =>
      show lcGo vs mg mt me ρ ds = _
      rw [List.filter_cons_of_neg (by rw [← hc]; exact fun z => nomatch z)]
      exact ih
/-- results one by one -/
inductive F2 (P : D → D → Prop) : List D → List D → Prop
  | nil : F2 P [] []
  | cons {d v : D} {ds vs : List D} : P d v → F2 P ds vs → F2 P (d :: ds) (v :: vs)
theorem F2.length {P : D → D → Prop} : ∀ {ds vs : List D}, F2 P ds vs → vs.length = ds.length
  | _, _, .nil => rfl
  | _, _, .cons _ t => by rw [List.length_cons, List.length_cons, t.length]
theorem wE_lcGoE {vs : List Nat} {mg : D → Ev → Option Ev} {me : Ev → Option (D × Ev)} (I : Ev → Prop) (P : D → D → Prop) : ∀ {ds : List D} {ρ : Ev} {Q : List D → Ev → Prop},
    (∀ d ∈ ds, ∀ ρ, I ρ → wO (mg d (wipeE ρ vs)) fun ρ1 => wE me ρ1 fun v ρ2 => ρ2.length = ρ.length ∧ P d v ∧ I (backE ρ ρ2 vs)) → I ρ → (∀ xs ρ', F2 P ds xs → I ρ' → Q xs ρ') → wE (lcGoE vs mg (fun ρ => some (true, ρ)) me ds) ρ Q
  | [], ρ, Q, h, h0, q => ⟨([], ρ), rfl, q [] ρ .nil h0⟩
  | d :: ds, ρ, Q, h, h0, q => by
    obtain ⟨ρ1, h1, ⟨v, ρ2⟩, h2, hl, hp, hi⟩ := h d List.mem_cons_self ρ h0
    obtain ⟨⟨xs, ρ3⟩, h3, hx, hi3⟩ := wE_lcGoE (vs := vs) (mg := mg) (me := me) I P (ds := ds) (ρ := backE ρ ρ2 vs) (Q := fun xs ρ' => F2 P ds xs ∧ I ρ') (fun x hx => h x (List.mem_cons_of_mem _ hx)) hi (fun xs ρ' a b => ⟨a, b⟩)
    refine ⟨(v :: xs, ρ3), ?_, q _ _ (.cons hp hx) hi3⟩
    simp only at h2 hl h3
    unfold lcGoE
    rw [h1]
    simp only [Option.bind_some, h2, hl, h3, if_true, Option.map_some]
end Mi

end
section
set_option maxHeartbeats 2000000
open PySem PySem.Spec PyProof.Rows
namespace Mi
open L2
/-! ### data -/
section
variable {i j : Int} {xs ys : List D} {d : D} {b c : Bool}
theorem d_add : addD (.int i) (.int j) = some (.int (i + j)) := rfl
theorem d_sub : subD (.int i) (.int j) = some (.int (i - j)) := rfl
theorem d_neg : negD (.int i) = some (.int (-i)) := rfl
theorem d_lt : ltD (.int i) (.int j) = some (.bool (decide (i < j))) := rfl
theorem d_le : leD (.int i) (.int j) = some (.bool (decide (i ≤ j))) := rfl
theorem d_gt : gtD (.int i) (.int j) = some (.bool (decide (j < i))) := rfl
theorem d_ge : geD (.int i) (.int j) = some (.bool (decide (j ≤ i))) := rfl
theorem d_eq : eqD (.int i) (.int j) = some (.bool (i == j)) := rfl
theorem d_ne : neD (.int i) (.int j) = some (.bool (!(i == j))) := rfl
theorem d_eqb : eqD (.bool b) (.bool c) = some (.bool (b == c)) := rfl
theorem d_mod (h : 0 < j) : modD (.int i) (.int j) = some (.int (i % j)) := if_pos (decide_eq_true h)
theorem d_fdiv (h : 0 < j) (h2 : j < 1073741824) : fdivD (.int i) (.int j) = some (.int (i / j)) := if_pos (by show (decide (0 < j) && decide (j < 1073741824)) = true; rw [decide_eq_true h, decide_eq_true h2]; rfl)
theorem d_mul (h : mulOk i j = true) : mulD (.int i) (.int j) = some (.int (i * j)) := if_pos h
theorem mulOk_l (h : -(2 ^ 63) ≤ i) (h2 : i < 2 ^ 63) : mulOk i j = true := by
  unfold mulOk
  rw [decide_eq_true (by omega), decide_eq_true (by omega)]; rfl
theorem mulOk_r (h : -(2 ^ 63) ≤ j) (h2 : j < 2 ^ 63) : mulOk i j = true := by
  unfold mulOk
  rw [decide_eq_true (p := -(2 ^ 64) < j) (by omega), decide_eq_true (p := j < 2 ^ 64) (by omega), Bool.and_self, Bool.or_true]
theorem d_addt (h : xs.length + ys.length ≤ LL) : addD (.tuple xs) (.tuple ys) = some (.tuple (xs ++ ys)) := if_pos h
theorem d_addl (h : xs.length + ys.length ≤ LL) : addD (.list xs) (.list ys) = some (.list (xs ++ ys)) := if_pos h
theorem d_rep {n : Nat} (h : xs.length * n ≤ LL) (h2 : n < 2 ^ 63) : mulD (.tuple xs) (.int n) = some (.tuple (List.replicate n xs).flatten) := by
  simp only [mulD]
  rw [if_pos (by rw [decide_eq_true (p := -(2 ^ 63) ≤ (n : Int)) (by omega), decide_eq_true (p := (n : Int) < 2 ^ 63) (by omega), decide_eq_true (by rw [Int.toNat_natCast]; exact h)]; rfl), Int.toNat_natCast]
theorem rep1 {n : Nat} {d : D} : (List.replicate n [d]).flatten = List.replicate n d := by
  induction n with
  | zero => rfl
  | succ n ih => rw [List.replicate_succ, List.flatten_cons, ih]; rfl
theorem d_tupl : tupD [.list xs] = some (.tuple xs) := rfl
theorem d_tupt : tupD [.tuple xs] = some (.tuple xs) := rfl
theorem d_listl : listD [.list xs] = some xs := rfl
theorem d_listt : listD [.tuple xs] = some xs := rfl
theorem d_lenl : lenD [.list xs] = some (.int xs.length) := rfl
theorem d_lent : lenD [.tuple xs] = some (.int xs.length) := rfl
theorem d_int : intD [.int i] = some (.int i) := rfl
theorem d_abs : absDD [.int i] = some (.int (if i < 0 then -i else i)) := rfl
theorem d_max : max2D [.int i, .int j] = some (.int (if j > i then j else i)) := rfl
theorem d_min : min2D [.int i, .int j] = some (.int (if j < i then j else i)) := rfl
theorem d_iteml : itemsD (.list xs) = some xs := rfl
theorem d_itemt : itemsD (.tuple xs) = some xs := rfl
theorem d_ixl : ixD (.list xs) (.int i) = atI xs i := rfl
theorem d_ixt : ixD (.tuple xs) (.int i) = atI xs i := rfl
theorem d_trb : truthD (.bool b) = some b := rfl
theorem d_tri : truthD (.int i) = some (i != 0) := rfl
theorem d_trl : truthD (.list xs) = some (!xs.isEmpty) := rfl
theorem d_trt : truthD (.tuple xs) = some (!xs.isEmpty) := rfl
theorem d_bl : blD (.bool b) = some b := rfl
theorem d_is : isD d .none = some (.bool (isNone d)) := rfl
theorem d_isN : isNotD d .none = some (.bool (!isNone d)) := rfl
theorem d_slt {l h : Option Int} : slD (.tuple xs) l h = some (.tuple (cutD xs l h)) := rfl
theorem d_sll {l h : Option Int} : slD (.list xs) l h = some (.list (cutD xs l h)) := rfl
theorem d_part : partD (some (.int i)) = some (some i) := rfl
theorem g_nm {k : Nat} {ρ : Ev} : (fun (d : D) (ρ : Ev) => some (ρ.set k (.fr d))) d ρ = some (ρ.set k (.fr d)) := rfl
theorem d_range {n : Nat} (h : n < 2 ^ 62) : rangeD [.int n] = some ((List.range n).map fun i => PyData.int (i : Nat)) := by
  simp only [rangeD]
  rw [if_pos (by rw [decide_eq_true (p := -(2 ^ 62) ≤ (n : Int)) (by omega), decide_eq_true (p := (n : Int) < 2 ^ 62) (by omega)]; rfl), Int.toNat_natCast]
  simp only [Int.zero_add]
theorem d_rangeI (h : 0 ≤ i) (h2 : i < 2 ^ 62) : rangeD [.int i] = some ((List.range i.toNat).map fun k => PyData.int (k : Nat)) := by
  have := d_range (n := i.toNat) (by omega)
  rw [Int.toNat_of_nonneg h] at this
  exact this
theorem d_range2 (h : 0 ≤ i) (h2 : i < 2 ^ 62) (h3 : 0 ≤ j) (h4 : j < 2 ^ 62) : rangeD [.int i, .int j] = some ((List.range (j - i).toNat).map fun k => PyData.int (i + (k : Nat))) := by
  simp only [rangeD]
  rw [if_pos (by rw [decide_eq_true (p := -(2 ^ 62) ≤ i) (by omega), decide_eq_true (p := i < 2 ^ 62) (by omega), decide_eq_true (p := -(2 ^ 62) ≤ j) (by omega), decide_eq_true (p := j < 2 ^ 62) (by omega)]; rfl)]
theorem r_len1 : (if [d].length = 1 then rangeD [d] else none) = rangeD [d] := rfl
theorem r_len2 {e : D} : (if [d, e].length = 2 then rangeD [d, e] else none) = rangeD [d, e] := rfl
theorem r_len3 {e f : D} : (if [d, e, f].length = 3 then rangeD [d, e, f] else none) = rangeD [d, e, f] := rfl
theorem at_nat {α : Type} {ls : List α} {n : Nat} {v : α} (h : ls[n]? = some v) : atI ls (n : Int) = some v := atI_nat h
theorem at_pos {α : Type} {ls : List α} (h : 0 ≤ i) (h2 : i < ls.length) : atI ls i = ls[i.toNat]? := by
  have h3 : i.toNat < ls.length := by omega
  have := at_nat (ls := ls) (n := i.toNat) (List.getElem?_eq_getElem h3)
  rw [Int.toNat_of_nonneg h] at this
  rw [this, List.getElem?_eq_getElem h3]
theorem at_0 {α : Type} {x : α} {ls : List α} : atI (x :: ls) 0 = some x := at_nat (n := 0) rfl
theorem at_1 {α : Type} {x y : α} {ls : List α} : atI (x :: y :: ls) 1 = some y := at_nat (n := 1) rfl
theorem at_2 {α : Type} {x y z : α} {ls : List α} : atI (x :: y :: z :: ls) 2 = some z := at_nat (n := 2) rfl
theorem at_3 {α : Type} {x y z u : α} {ls : List α} : atI (x :: y :: z :: u :: ls) 3 = some u := at_nat (n := 3) rfl
theorem at_4 {α : Type} {x y z u v : α} {ls : List α} : atI (x :: y :: z :: u :: v :: ls) 4 = some v := at_nat (n := 4) rfl
end
theorem wE_draw {b i : Nat} {bx : D} {n : Int} {ρ : Ev} {Q : D → Ev → Prop} (h0 : ρ[i]? = some (.ob 1 bx)) (hb : Bx b bx) (h1 : 0 < n) (h2 : n < 1073741824) (q : ∀ v bx', 0 ≤ v → v < n → Bx b bx' → Q (.int v) (ρ.set i (.ob 1 bx'))) :
    wE (mIO i 1 (mE (mCons (fun _ => some (.int n)) (fun _ => some []))) drawD) ρ Q := by
  rw [wE_io ⟨_, _, h0⟩, wE_mE, wP_mCons, wP_con, wP_con]
  simp only [h0]
  exact ⟨trivial, wO_draw hb h1 h2 q⟩
/-- a call with the box of a def that gives z -/
theorem wE_call {i : Nat} {n : Ev → Option (List D × Ev)} {g : D → List D → Option (D × D)} {ρ : Ev} {Q : D → Ev → Prop} (h0 : ∃ c d, ρ[i]? = some (.ob c d)) (q : wE n ρ fun as ρ1 => ∃ bx, ρ1[i]? = some (.ob 1 bx) ∧ wO (g bx as) fun z => Q z.1 (ρ1.set i (.ob 1 z.2))) : wE (mIO i 1 n g) ρ Q := by
  rw [wE_io h0]
  refine q.mono fun as ρ1 ⟨bx, h1, h2⟩ => ?_
  simp only [h1]
  exact ⟨trivial, h2⟩
/-! ### comprehensions without tests -/
theorem wO_lcGoP {vs : List Nat} {mg : D → Ev → Option Ev} {me : Ev → Option D} {ρ : Ev} (P : D → D → Prop) : ∀ {ds : List D} {Q : List D → Prop},
    (∀ d ∈ ds, wO (mg d (wipeE ρ vs)) fun ρ1 => wP me ρ1 fun v => P d v) → (∀ xs, F2 P ds xs → Q xs) → wO (lcGo vs mg (fun _ => some true) me ρ ds) Q
  | [], Q, h, q => ⟨[], rfl, q [] .nil⟩
  | d :: ds, Q, h, q => by
    obtain ⟨ρ1, h1, v, h2, hp⟩ := h d List.mem_cons_self
    obtain ⟨xs, h3, hx⟩ := wO_lcGoP (vs := vs) (mg := mg) (me := me) (ρ := ρ) P (ds := ds) (Q := fun xs => F2 P ds xs) (fun x hx => h x (List.mem_cons_of_mem _ hx)) (fun xs a => a)
    refine ⟨v :: xs, ?_, q _ (.cons hp hx)⟩
    unfold lcGo
    rw [h1]
    simp only [Option.bind_some, h2, h3, if_true, Option.map_some]
theorem wO_lcGo1 {vs : List Nat} {mg : D → Ev → Option Ev} {me : Ev → Option D} {ρ : Ev} {ds : List D} {Q : List D → Prop} (f : D → D) (h : ∀ d ∈ ds, wO (mg d (wipeE ρ vs)) fun ρ1 => wP me ρ1 fun v => v = f d) (q : Q (ds.map f)) : wO (lcGo vs mg (fun _ => some true) me ρ ds) Q := by
  refine wO_lcGoP (fun d v => v = f d) h fun xs hx => ?_
  have : xs = ds.map f := by
    clear h q
    induction hx with
    | nil => rfl
    | cons h _ ih => rw [h, ih]; rfl
  rw [this]; exact q
theorem ll_small {n : Nat} (h : n ≤ 100000) : n ≤ LL := Nat.le_trans h (by decide)
theorem range_len {n : Nat} {f : Nat → D} (h : n ≤ 100000) : ((List.range n).map f).length ≤ LL := by
  rw [List.length_map, List.length_range]; exact ll_small h
theorem F2.all {p : D → Prop} {ds xs : List D} (h : F2 (fun _ v => p v) ds xs) : ∀ x ∈ xs, p x := by
  induction h with
  | nil => intro x hx; cases hx
  | cons h _ ih =>
    intro x hx
    rcases List.mem_cons.mp hx with rfl | hx
    · exact h
    · exact ih x hx
theorem F2.ints {ds xs : List D} (h : F2 (fun _ v => ∃ i, v = .int i) ds xs) : ∃ is : List Int, xs = is.map .int ∧ is.length = ds.length := by
  induction h with
  | nil => exact ⟨[], rfl, rfl⟩
  | cons h _ ih =>
    obtain ⟨i, rfl⟩ := h
    obtain ⟨is, rfl, hl⟩ := ih
    exact ⟨i :: is, rfl, by simp [hl]⟩
/-- whole numbers between two bounds -/
theorem F2.intsIn {ds xs : List D} {lo hi : Int} (h : F2 (fun _ v => ∃ i, v = .int i ∧ lo ≤ i ∧ i ≤ hi) ds xs) : ∃ is : List Int, xs = is.map .int ∧ is.length = ds.length ∧ ∀ i ∈ is, lo ≤ i ∧ i ≤ hi := by
  induction h with
  | nil => exact ⟨[], rfl, rfl, fun i h => by cases h⟩
  | cons h _ ih =>
    obtain ⟨i, rfl, h1, h2⟩ := h
    obtain ⟨is, rfl, hl, hb⟩ := ih
    refine ⟨i :: is, rfl, by simp [hl], fun j hj => ?_⟩
    rcases List.mem_cons.mp hj with rfl | hj
    · exact ⟨h1, h2⟩
    · exact hb j hj
theorem mem_range_int {n : Nat} {d : D} (h : d ∈ (List.range n).map fun k => PyData.int (k : Nat)) : ∃ k : Nat, d = .int k ∧ k < n := by
  obtain ⟨k, hk, rfl⟩ := List.mem_map.mp h
  exact ⟨k, rfl, List.mem_range.mp hk⟩
/-- a loop that is gone through -/
def Nx (I : Ev → Prop) : Out → Prop
  | .nx ρ => I ρ
  | .ct ρ => I ρ
  | _ => False
theorem wS_loop {mg : D → Ev → Option Ev} {mb : Ev → Option Out} {Q : Out → Prop} {ds : List D} {ρ : Ev} (I : Nat → Ev → Prop) (h0 : I 0 ρ) (hs : ∀ i d ρ, ds[i]? = some d → I i ρ → wO (mg d ρ) fun ρ1 => wS mb ρ1 (Nx (I (i + 1)))) (he : ∀ ρ, I ds.length ρ → Q (.nx ρ)) : wS (forGo mg mb ds) ρ Q := by
  refine wS_forGo I 0 h0 (fun i d ρ hd hi => ?_) (fun ρ h => he ρ (by rw [Nat.zero_add] at h; exact h))
  rw [Nat.zero_add] at hi ⊢
  obtain ⟨ρ1, h1, h2⟩ := hs i d ρ hd hi
  refine ⟨ρ1, h1, h2.mono fun o ho => ?_⟩
  cases o with
  | nx ρ => exact ho
  | ct ρ => exact ho
  | bk ρ => exact absurd ho id
  | rt d ρ => exact absurd ho id
/-- an invariant that does not count -/
theorem wS_loopI {mg : D → Ev → Option Ev} {mb : Ev → Option Out} {Q : Out → Prop} {ds : List D} {ρ : Ev} (I : Ev → Prop) (h0 : I ρ) (hs : ∀ d ∈ ds, ∀ ρ, I ρ → wO (mg d ρ) fun ρ1 => wS mb ρ1 (Nx I)) (he : ∀ ρ, I ρ → Q (.nx ρ)) : wS (forGo mg mb ds) ρ Q :=
  wS_loop (fun _ => I) h0 (fun i d ρ hd hi => hs d (List.mem_of_getElem? hd) ρ hi) he
theorem wS_while {t : Ev → Option Bool} {b : Ev → Option Out} {Q : Out → Prop} (I : Nat → Ev → Prop) (hs : ∀ n ρ, I n ρ → wP t ρ fun c => if c = true then wS b ρ (fun o => match o with | .nx ρ' => ∃ m, m < n ∧ I m ρ' | _ => False) else Q (.nx ρ)) : ∀ (n : Nat) {ρ : Ev}, I n ρ → wS (whileM t b) ρ Q := by
  intro n
  induction n using Nat.strongRecOn with
  | ind n ih =>
    intro ρ h0
    obtain ⟨c, h1, h2⟩ := hs n ρ h0
    cases c with
    | true =>
      rw [if_pos rfl] at h2
      obtain ⟨o, h3, h4⟩ := h2
      cases o with
      | nx ρ' =>
        obtain ⟨m, hm, hi⟩ := h4
        obtain ⟨o, h5, q⟩ := ih m hm hi
        refine ⟨o, ?_, q⟩
        rw [whileM, h1]
        simp only [h3]
        exact h5
      | _ => exact absurd h4 id
    | false =>
      rw [if_neg (fun z => nomatch z)] at h2
      exact ⟨_, by rw [whileM, h1], h2⟩
end Mi

end
section
set_option maxHeartbeats 2000000
open PySem PySem.Spec PyProof.Rows
namespace Mi
open L2
/-! ### more steps: constants of a module, x += e, xs[i] = e, texts -/
section
variable {X : Cx} {R : ORel} {e a b : Expr} {m ma mb : Ev → Option D} {pos pos' p tpos : Pos}
theorem pf_globI {x : Str} {i : Int} (h : ∃ t, X.mg x = some (.int i t)) (hg : Gl X x) (hd : (x == ("__debug__" : Str)) = false := by decide) : PE X (.Name x pos) (tF X.K R fun _ => some (.int i)) := by
  obtain ⟨t, h⟩ := h
  exact pf_glob (v := .int i) hg h ⟨t, rfl⟩ (fun _ => .int i) hd
theorem pf_globS {x s : Str} (h : ∃ t, X.mg x = some (.str s t)) (hg : Gl X x) (hd : (x == ("__debug__" : Str)) = false := by decide) : PE X (.Name x pos) (tF X.K R fun _ => some (.str s)) := by
  obtain ⟨t, h⟩ := h
  exact pf_glob (v := .str s) hg h ⟨t, rfl⟩ (fun _ => .str s) hd
/-- x op= e -/
def mAug (i : Nat) (g : D → D → Option D) (m : Ev → Option (D × Ev)) : Ev → Option Out := fun ρ => (getF i ρ).bind fun x => (m ρ).bind fun y => (g x y.1).map fun z => .nx (y.2.set i (.fr z))
theorem ms_aug {i : Nat} {x : Str} {op : Operator} {r : R2} {g : D → D → Option D} {me : Ev → Option (D × Ev)} (hN : X.N.Nodup) (hi : X.N[i]? = some x) (hx : Loc X.env.scope x) (he : PE X e (tE X.K R me)) (ho : OpR X (inplaceOp op) r) (hm : OpM X.K r g) (hf : X.fn x = true ∨ X.env.scope.names.lookup x = some .local := by first | exact .inl rfl | exact .inr rfl | assumption) :
    PS X (.AugAssign (.Name x pos') op e pos) (tS X.K R (mAug i g me)) := (ps_aug hN hi hx he (ti := r) (fun pins s σ H x y v u Q I rx ry h => ho pins s σ H x y v u Q I rx ry h) hf).imp fun E σ H ⟨B, F, w, ρ, o, W, h, q⟩ => by
  obtain ⟨d, h1, h⟩ := Option.bind_eq_some_iff.mp h
  obtain ⟨⟨y, ρ1⟩, h2, h⟩ := Option.bind_eq_some_iff.mp h
  obtain ⟨z, h3, h⟩ := Option.map_eq_some_iff.mp h
  subst h
  obtain ⟨v, ev, rv⟩ := W.getF h1
  refine ⟨v, ev, B, F, w, ρ, y, ρ1, W, h2, fun u F1 w1 H1 W1 E1 r1 => ?_⟩
  refine hm F1 H1 v u d y z W1.fh (.inl (rv.up E1.ff)) (.inl r1) h3 _ fun v2 F2 H2 E2 r2 => ?_
  exact q F2 w1 _ H2 ((W1.ext E2).setF (i := i) r2) (E1.ff.trans E2.ff)
/-- xs[k] = e, xs a list of one's own -/
def mSti (i : Nat) (mv : Ev → Option (D × Ev)) (mk : Ev → Option D) : Ev → Option Out := fun ρ => (mv ρ).bind fun x => (getO i x.2).bind fun ds => (mk x.2).bind fun k => match k with
  | .int k => (ixN ds.length k).map fun j => .nx (x.2.set i (.ow (.list (ds.set j x.1))))
  | _ => none
theorem ms_sti (i : Nat) {x : Str} {px : Pos} {k : Expr} {mk : Ev → Option D} {mv : Ev → Option (D × Ev)} (he : PE X e (tE X.K R mv)) (hk : PE X k (tF X.K R mk)) (hi : i ≠ 0 := by decide) (hN : X.N[i]? = some x := by rfl) (hv : Vis X.env.scope x := by first | exact Or.inl rfl | exact Or.inr (Or.inl rfl) | exact Or.inr (Or.inr rfl)) (hd : (x == ("__debug__" : Str)) = false := by decide) (hcd : (x == ("__classdict__" : Str)) = false := by decide)
    (ha : ∀ v, assign (.Subscript (.Name x px) k tpos) X.env v = (do
      let ov ← holding [v] (eval (.Name x px) X.env)
      let iv ← holding [v, ov] (eval k X.env)
      standAt tpos
      holding [v, ov, iv] (setItem ov iv v)
      release [v, ov, iv] []) := by intro _; rfl)
    (hs : swapsWithSole [.Subscript (.Name x px) k tpos] e pos.line X.env = pure false := by rfl) (hw : swappedStores [.Subscript (.Name x px) k tpos] e X.env = pure none := by rfl) (h1 : (assignEach [.Subscript (.Name x px) k tpos] X.env).map (·.2) = [assign (.Subscript (.Name x px) k tpos) X.env] := by rfl) :
    PS X (.Assign [.Subscript (.Name x px) k tpos] e pos) (tS X.K R (mSti i mv mk)) := (ps_asg he (pg_sub (pe_var hN hv hd hcd) hk set_list ha) hs hw h1).imp fun E σ H ⟨B, F, w, ρ, o, W, h, q⟩ => by
  obtain ⟨⟨y, ρ1⟩, h1, h⟩ := Option.bind_eq_some_iff.mp h
  obtain ⟨ds, h2, h⟩ := Option.bind_eq_some_iff.mp h
  obtain ⟨kd, h3, h⟩ := Option.bind_eq_some_iff.mp h
  refine ⟨B, F, w, ρ, y, ρ1, W, h1, fun v F1 w1 H1 W1 E1 r1 => ?_⟩
  obtain ⟨a, vs, e0, hw, hh, hr, hil⟩ := W1.own h2
  refine ⟨_, e0, B, F1, w1, ρ1, kd, W1, h3, fun kv F2 H2 E2 rk => ?_⟩
  simp only at h
  split at h
  · rename_i k' 
    obtain ⟨j, h4, h⟩ := Option.map_eq_some_iff.mp h
    subst h
    cases rk
    have W2 := W1.ext E2
    have hh2 := E2.hh a _ hh
    refine ⟨a, vs, _, j, rfl, rfl, hh2, by rw [hr.length]; exact h4, ?_⟩
    exact q F2 w1 σ _ (frs_wr W2 hi hw hh2 e0 hil ((hr.up E2.ff).set (r1.up E2.ff) j)) (E1.ff.trans E2.ff)
  · cases h
def augAdd : D → D → Option D := opI0 fun i j => i + j
def augSub : D → D → Option D := opI0 fun i j => i - j
theorem om_augAdd {K : PySem.W.Frag} : OpM K (rI0 fun i j => .int (i + j)) augAdd := om_I0
theorem om_augSub {K : PySem.W.Frag} : OpM K (rI0 fun i j => .int (i - j)) augSub := om_I0
theorem d_augAdd {i j : Int} : augAdd (.int i) (.int j) = some (.int (i + j)) := rfl
theorem d_augSub {i j : Int} : augSub (.int i) (.int j) = some (.int (i - j)) := rfl
/-! texts -/
def repS (x : Str) (n : Nat) : Str := ⟨(List.replicate n x.cps).foldl (· ++ ·) #[]⟩
def rRepS : R2 := fun x y H Q => ∃ (s : Str) (n : Int), x = .str s ∧ y = .int n ∧ 0 ≤ n ∧ n ≤ 1000 ∧ 0 < s.length ∧ s.length ≤ 1000 ∧ Q (.str (repS s n.toNat)) H
theorem op_repS : OpR X (binaryOp .Mult) rRepS := by
  intro pins s σ H x y v u Q I rx ry h
  obtain ⟨z, n, rfl, rfl, h0, h1, hz0, hz, q⟩ := h
  obtain ⟨t, rfl⟩ := rx
  obtain ⟨t', rfl⟩ := ry
  refine P.mul_str (by rw [decide_eq_false (by omega), decide_eq_false (by omega)]; rfl) (fun h2 h3 => ?_) (fun h2 h3 => ?_) ?_
  · have hm : (z.length : Int) * n ≤ 1000 * 1000 := Int.mul_le_mul (by omega) h1 (by omega) (by decide)
    have := Int.le_ediv_of_mul_le (a := (z.length : Int)) (b := 2 ^ 63 - 1) (c := n) (by omega) (by omega)
    omega
  · have h5 : z.length * n.toNat ≤ 1000 * 1000 := Nat.mul_le_mul hz (by omega)
    unfold Builtin.Str.tooLong
    exact decide_eq_false (by have : (1000 * 1000 : Nat) ≤ sizeLine := by decide
                              omega)
  · have size : ∀ (n : Nat) (acc : Array Nat), ((List.replicate n z.cps).foldl (· ++ ·) acc).size = acc.size + n * z.cps.size := by
      intro n
      induction n with
      | zero => intro acc; simp
      | succ n ih => intro acc; rw [List.replicate_succ, List.foldl_cons, ih, Array.size_append, Nat.add_mul]; omega
    by_cases hn : n < 1
    · rw [if_pos hn]
      have : n = 0 := by omega
      subst this
      exact ⟨by decide, .str _, H, I.tok _, ⟨_, rfl⟩, q⟩
    · rw [if_neg hn]
      by_cases h2 : (n == 1 || z.length == 0) = true
      · rw [if_pos h2]
        have h3 : n = 1 := by
          simp only [Bool.or_eq_true, beq_iff_eq] at h2
          omega
        subst h3
        have e : repS z (1 : Int).toNat = z := by
          unfold repS
          simp
        rw [e] at q
        exact ⟨.str _, H, I, ⟨_, rfl⟩, q⟩
      · rw [if_neg h2]
        refine ⟨?_, .str _, H, I.tok _, ⟨_, rfl⟩, q⟩
        have h5 : z.length * n.toNat ≤ 1000 * 1000 := Nat.mul_le_mul hz (by omega)
        show ((List.replicate n.toNat z.cps).foldl (· ++ ·) #[]).size ≤ sizeLine
        rw [size]
        have e : z.cps.size = z.length := rfl
        rw [e, Nat.mul_comm]
        have : (1000 * 1000 : Nat) ≤ sizeLine := by decide
        simp only [List.size_toArray, List.length_nil]
        omega
def mulS : D → D → Option D
  | .str s, .int n => if (decide (0 ≤ n) && (decide (n ≤ 1000) && (decide (0 < s.length) && decide (s.length ≤ 1000)))) = true then some (.str (repS s n.toNat)) else none
  | _, _ => none
theorem om_mulS {K : PySem.W.Frag} : OpM K rRepS mulS := by
  intro F H x y a b d e ra rb hg Q q
  unfold mulS at hg
  split at hg
  · split at hg
    · rename_i s n hk
      injection hg with hg; subst hg
      simp only [Bool.and_eq_true, decide_eq_true_eq] at hk
      exact ⟨s, n, ra.str, rb.int, hk.1, hk.2.1, hk.2.2.1, hk.2.2.2, q _ F H (.refl e) (.str _)⟩
    · cases hg
  · cases hg
def intS : List D → Option D
  | [.str s] => if s.length ≤ 640 then (PySem.intText? s).map .int else none
  | _ => none
theorem cm_intS {K : PySem.W.Frag} : CM K (fun xs H Q => ∃ a n, xs = [.str a] ∧ PySem.intText? a = some n ∧ a.length ≤ 640 ∧ Q (.int n) H) intS := by
  intro F H vs ds d e rs hg Q q
  unfold intS at hg
  split at hg
  · split at hg
    · rename_i hl
      obtain ⟨n, h1, rfl⟩ := Option.map_eq_some_iff.mp hg
      cases rs with
      | cons r rs => cases rs; rw [r.str]; exact ⟨_, n, rfl, h1, hl, q _ F H (.refl e) (.int _)⟩
    · cases hg
  · cases hg
end
theorem wP_aug {i : Nat} {g : D → D → Option D} {m : Ev → Option (D × Ev)} {ρ : Ev} {Q : Out → Prop} : wS (mAug i g m) ρ Q ↔ wP (getF i) ρ fun x => wE m ρ fun y ρ1 => wO (g x y) fun z => Q (.nx (ρ1.set i (.fr z))) := by
  constructor
  · rintro ⟨o, h, q⟩
    obtain ⟨x, h1, h⟩ := Option.bind_eq_some_iff.mp h
    obtain ⟨⟨y, ρ1⟩, h2, h⟩ := Option.bind_eq_some_iff.mp h
    obtain ⟨z, h3, h⟩ := Option.map_eq_some_iff.mp h
    subst h
    exact ⟨_, h1, _, h2, _, h3, q⟩
  · rintro ⟨x, h1, ⟨y, ρ1⟩, h2, z, h3, q⟩
    exact ⟨_, by simp only at h2 h3; simp [mAug, h1, h2, h3], q⟩
theorem wP_sti {i : Nat} {mv : Ev → Option (D × Ev)} {mk : Ev → Option D} {ρ : Ev} {Q : Out → Prop} : wS (mSti i mv mk) ρ Q ↔ wE mv ρ fun x ρ1 => wO (getO i ρ1) fun ds => wP mk ρ1 fun k => match k with | .int k => wO (ixN ds.length k) fun j => Q (.nx (ρ1.set i (.ow (.list (ds.set j x))))) | _ => False := by
  constructor
  · rintro ⟨o, h, q⟩
    obtain ⟨⟨x, ρ1⟩, h1, h⟩ := Option.bind_eq_some_iff.mp h
    obtain ⟨ds, h2, h⟩ := Option.bind_eq_some_iff.mp h
    obtain ⟨k, h3, h⟩ := Option.bind_eq_some_iff.mp h
    refine ⟨_, h1, _, h2, _, h3, ?_⟩
    cases k with
    | int k =>
      obtain ⟨j, h4, h⟩ := Option.map_eq_some_iff.mp h
      subst h
      exact ⟨_, h4, q⟩
    | _ => cases h
  · rintro ⟨⟨x, ρ1⟩, h1, ds, h2, k, h3, h⟩
    cases k with
    | int k =>
      obtain ⟨j, h4, q⟩ := h
      exact ⟨_, by simp only at h2 h3 h4; simp [mSti, h1, h2, h3, h4], q⟩
    | _ => exact absurd h id
end Mi

end
section
set_option maxHeartbeats 2000000
open PySem PySem.Spec PyProof.Rows
namespace Mi
open L2
/-! ### xs[lo:hi:step] -/
def placesL (lo hi st : Option Int) (n : Nat) : List Nat := sliceRange (sliceBounds lo hi st n).1 (sliceBounds lo hi st n).2.1 (sliceBounds lo hi st n).2.2
def placesT (lo hi : Option Int) (st : Int) (n : Nat) : List Nat := (List.range (Builtin.Slice.slicePlaces (Builtin.Slice.sliceAdjust lo hi st n).1 (Builtin.Slice.sliceAdjust lo hi st n).2 st)).map fun (k : Nat) => ((Builtin.Slice.sliceAdjust lo hi st n).1 + (k : Int) * st).toNat
def pick {α : Type} (xs : List α) (ks : List Nat) : List α := ks.filterMap (xs[·]?)
theorem pick_len {α : Type} (xs : List α) (ks : List Nat) : (pick xs ks).length ≤ ks.length := List.length_filterMap_le _ _
theorem pick_rp {K : PySem.W.Frag} {F : Hp} {vs : List V} {ds : List D} (r : RpAll K F vs ds) : ∀ ks : List Nat, RpAll K F (pick vs ks) (pick ds ks)
  | [] => .nil
  | k :: ks => by
    unfold pick
    cases h : ds[k]? with
    | none =>
      have h2 : vs[k]? = none := by rw [List.getElem?_eq_none_iff] at h ⊢; rw [r.length]; exact h
      rw [List.filterMap_cons_none h2, List.filterMap_cons_none h]
      exact pick_rp r ks
    | some d =>
      obtain ⟨v, h2, h3⟩ := r.get h
      rw [List.filterMap_cons_some h2, List.filterMap_cons_some h]
      exact .cons h3 (pick_rp r ks)
theorem pick_vals {xs : List V} {us : List Value} (r : Vals xs us) : ∀ ks : List Nat, Vals (pick xs ks) (pick us ks)
  | [] => .nil
  | k :: ks => by
    unfold pick
    cases h : xs[k]? with
    | none =>
      have h2 : us[k]? = none := by rw [List.getElem?_eq_none_iff] at h ⊢; rw [← r.length]; exact h
      rw [List.filterMap_cons_none h2, List.filterMap_cons_none h]
      exact pick_vals r ks
    | some d =>
      obtain ⟨v, h2, h3⟩ := r.get h
      rw [List.filterMap_cons_some h2, List.filterMap_cons_some h]
      exact .cons h3 (pick_vals r ks)
section
variable {prog : Program} {w : World} {A : Around} {E : Value → Shared → Prop} {s : Shared}
theorem sliceApplied_st {sl : Addr} {vl vu vs : Value} {lo hi : Option Int} {st : Int} {n : Nat} {Q : Int × Int × Nat → Shared → Prop} (hs : s.heap.IsSliceOf sl vl vu vs) (pl : IsPart vl lo) (pu : IsPart vu hi) (ps : IsPart vs (some st)) (h0 : st ≠ 0)
    (h : Q ((Builtin.Slice.sliceAdjust lo hi st (n : Int)).1, st, Builtin.Slice.slicePlaces (Builtin.Slice.sliceAdjust lo hi st (n : Int)).1 (Builtin.Slice.sliceAdjust lo hi st (n : Int)).2 st) s) : wpAny (model prog w) A (Builtin.Slice.sliceApplied (.ref sl) (pure (n : Int))) Q E s := by
  obtain ⟨os, hos, hcs, hds⟩ := id hs
  unfold Builtin.Slice.sliceApplied Builtin.Slice.sliceFields
  refine wpAny_bind (wpAny_bind (wpAny_field hos hds (x := vl) rfl (wpAny_bind (wpAny_field hos hds (x := vu) rfl (wpAny_bind (wpAny_field hos hds (x := vs) rfl (wpAny_pure ?_)))))))
  refine wpAny_bind (HT.slicePart_ ps ?_)
  show wpAny _ _ (if (st == 0) = true then _ else _) _ _ s
  rw [if_neg (by simpa using h0)]
  exact wpAny_bind (HT.slicePart_ pl (wpAny_bind (HT.slicePart_ pu (wpAny_bind (wpAny_pure (wpAny_pure h))))))
theorem getItem_tuple_st {t sl : Addr} {items : Array Value} {vl vu vs : Value} {lo hi : Option Int} {st : Int} {Q : Value → Shared → Prop} (ht : IsTup s.heap t items) (hs : s.heap.IsSliceOf sl vl vu vs) (pl : IsPart vl lo) (pu : IsPart vu hi) (ps : IsPart vs (some st)) (h0 : st ≠ 0) (h1 : st ≠ 1)
    (h : Q (.ref s.heap.objs.size) { s with heap := s.heap.push { cls := .type "tuple", data := .seq (pick items.toList (placesT lo hi st items.size)).toArray } })
    (hsz : (pick items.toList (placesT lo hi st items.size)).length ≤ sizeLine) : wpAny (model prog w) A (getItem (.ref t) (.ref sl)) Q E s := by
  have hok : sizeOk (.seq (pick items.toList (placesT lo hi st items.size)).toArray) := by
    show (pick items.toList (placesT lo hi st items.size)).toArray.size ≤ sizeLine
    rw [List.size_toArray]; exact hsz
  obtain ⟨os, hos, hcs, hds⟩ := id hs
  have hTs : s.TypeIs (.ref sl) "slice" := ⟨os, hos, hcs⟩
  unfold getItem
  try with_reducible refine wpAny_holding ?_
  first | refine wpAny_bind (wpAny_pure ?_) | skip
  refine wpAny_bind (wpAny_sequenceKey ht.typeIs (by decide) ?_)
  refine wpAny_bind (wpAny_callSpecial?_slot (name := Str.ofString "__getitem__") ht.typeIs PyProof.Rows.slot_tuple_getitem (wpAny_call_entry PyProof.Rows.slot_tuple_getitem ht.typeIs entry_tuple_getitem ?_ (args_tuple_getitem _ _)))
  show wpAny _ _ (Builtin.Tuple.tupleItemsOf (.ref t) >>= _) _ _ s
  refine wpAny_bind (tupleItemsOf_ ht ?_)
  refine wpAny_bind (wpAny_typeOf hTs ?_)
  rw [if_pos (by decide)]
  refine wpAny_bind (sliceApplied_st hs pl pu ps h0 ?_)
  have hno : ¬ (((Builtin.Slice.sliceAdjust lo hi st (items.size : Int)).1 == 0 && st == 1 && Builtin.Slice.slicePlaces (Builtin.Slice.sliceAdjust lo hi st (items.size : Int)).1 (Builtin.Slice.sliceAdjust lo hi st (items.size : Int)).2 st == items.size) = true) := by
    intro q
    rw [Bool.and_eq_true, Bool.and_eq_true] at q
    exact h1 (eq_of_beq q.1.2)
  show wpAny _ _ (if ((Builtin.Slice.sliceAdjust lo hi st (items.size : Int)).1 == 0 && st == 1 && Builtin.Slice.slicePlaces (Builtin.Slice.sliceAdjust lo hi st (items.size : Int)).1 (Builtin.Slice.sliceAdjust lo hi st (items.size : Int)).2 st == items.size) = true then _ else _) _ _ s
  rw [if_neg hno]
  have e : ((List.range (Builtin.Slice.slicePlaces (Builtin.Slice.sliceAdjust lo hi st (items.size : Int)).1 (Builtin.Slice.sliceAdjust lo hi st (items.size : Int)).2 st)).filterMap fun (k : Nat) => items[((Builtin.Slice.sliceAdjust lo hi st (items.size : Int)).1 + (k : Int) * st).toNat]?) = pick items.toList (placesT lo hi st items.size) := by
    unfold pick placesT
    rw [List.filterMap_map]
    congr 1
    funext k
    exact (Array.getElem?_toList).symm
  rw [e]
  first
    | exact wpAny_bind (m := Builtin.Tuple.tupleExact _) (wpAny_newObj_type (wpAny_pure ⟨_, rfl, wpAny_pure h⟩) hok)
    | exact wpAny_bind (m := Builtin.Tuple.tupleExact _) (wpAny_newObj_type (wpAny_bind (wpAny_pure (wpAny_pure ⟨_, rfl, wpAny_pure h⟩))) hok)
    | exact wpAny_bind (wpAny_bind (m := Builtin.Tuple.tupleExact _) (wpAny_newObj_type (wpAny_pure (wpAny_pure ⟨_, rfl, wpAny_pure h⟩)) hok))
    | exact wpAny_bind (wpAny_bind (m := Builtin.Tuple.tupleExact _) (wpAny_newObj_type (wpAny_pure ⟨_, rfl, wpAny_pure h⟩) hok))
end
def slSD (d : D) (lo hi : Option Int) (st : Int) : Option D := if st = 0 ∨ st = 1 then none else match d with
  | .list xs => if (pick xs (placesL lo hi (some st) xs.length)).length ≤ LL then some (.list (pick xs (placesL lo hi (some st) xs.length))) else none
  | .tuple xs => if (pick xs (placesT lo hi st xs.length)).length ≤ LL then some (.tuple (pick xs (placesT lo hi st xs.length))) else none
  | _ => none
section
variable {X : Cx} {R : ORel} {e s : Expr} {lo hi : Option Expr} {m me : Ev → Option D} {ml mh : Ev → Option (Option Int)} {ms : Ev → Option D} {pos p p2 : Pos}
def mSlS (m : Ev → Option D) (ml mh : Ev → Option (Option Int)) (ms : Ev → Option D) : Ev → Option D := fun ρ => (m ρ).bind fun d => (ml ρ).bind fun l => (mh ρ).bind fun h => (ms ρ).bind fun k => match k with
  | .int st => slSD d l h st
  | _ => none
theorem pf_sliceS (he : PE X e (tT X.K R m)) (hl : PO X lo (tPO X.K R ml)) (hu : PO X hi (tPO X.K R mh)) (hs : PE X s (tF X.K R ms)) : PE X (.Subscript e (.Slice lo hi (some s) p2) pos) (tF X.K R (mSlS m ml mh ms)) := by
  refine ⟨fun pins s0 σ H Q I ⟨B, F, w, ρ, d, W, h, q⟩ => ?_⟩
  obtain ⟨x, h1, h⟩ := Option.bind_eq_some_iff.mp h
  obtain ⟨l, h2, h⟩ := Option.bind_eq_some_iff.mp h
  obtain ⟨u, h3, h⟩ := Option.bind_eq_some_iff.mp h
  obtain ⟨k, h4, h⟩ := Option.bind_eq_some_iff.mp h
  cases k with
  | int st =>
    have hS : slSD x l u st = some d := h
    clear h
    refine Subscript_ (thn (he.run pins s0 σ H (fun v H1 => ∃ F1, Ext F H F1 H1 ∧ Tr X.K F1 H1 v x) I ⟨B, F, w, ρ, x, W, h1, fun v F1 H1 E1 r => ⟨F1, E1, r⟩⟩) fun vv s1 ⟨v, H1, I1, r1, F1, E1, rx⟩ => ?_)
    refine wpAny_Slice (thn (hl.run pins s1 σ H1 (fun o H2 => o = l ∧ ∃ F2, Ext F1 H1 F2 H2) I1 ⟨B, F1, w, ρ, l, W.ext E1, h2, fun F2 H2 E2 => ⟨rfl, F2, E2⟩⟩) fun vl s2 ⟨lo', H2, I2, pl, el, F2, E2⟩ => ?_)
    subst el
    refine thn (hu.run pins s2 σ H2 (fun o H3 => o = u ∧ ∃ F3, Ext F2 H2 F3 H3) I2 ⟨B, F2, w, ρ, u, (W.ext E1).ext E2, h3, fun F3 H3 E3 => ⟨rfl, F3, E3⟩⟩) fun vu s3 ⟨hi', H3, I3, pu, eu, F3, E3⟩ => ?_
    subst eu
    refine thn ((po_some hs).run pins s3 σ H3 (fun o H4 => o = some st ∧ ∃ F4, Ext F3 H3 F4 H4) I3 ⟨B, F3, w, ρ, .int st, ((W.ext E1).ext E2).ext E3, h4, fun z F4 H4 E4 rz => ⟨st, by cases rz; rfl, rfl, F4, E4⟩⟩) fun vs s4 ⟨o', H4, I4, ps, eo, F4, E4⟩ => ?_
    subst eo
    have I5 : Inv X pins σ H4 { s4 with heap := s4.heap.push { cls := .type "slice", data := .fields #[vl, vu, vs] } } := I4.kept (t' := s4.toks) fun b ob q => Heap.get?_push_of_some _ q
    have r4 := ((rx.up E2).up E3).up E4
    have Eall := ((E1.trans E2).trans E3).trans E4
    unfold slSD at hS
    split at hS
    · cases hS
    rename_i hst
    have hs0 : st ≠ 0 := fun z => hst (.inl z)
    have hs1 : st ≠ 1 := fun z => hst (.inr z)
    cases x with
    | list ds =>
      simp only at hS
      split at hS
      · rename_i hz
        cases hS
        obtain ⟨a, us, rfl, hh, hr⟩ := r4.list E4.fh
        cases r1
        obtain ⟨its, r, ht, hzz⟩ := I5.list (SqL.of hh)
        have hlen := r.length
        have hl5 : its.toArray.size = ds.length := by rw [List.size_toArray, ← hlen, hr.length]
        show wpAny (model X.prog X.w) X.A (subscriptTail e (.Slice lo hi (some s) p2) (.ref a) (.ref s4.heap.objs.size)) (EP X pins σ Q) X.xe { s4 with heap := s4.heap.push { cls := .type "slice", data := .fields #[vl, vu, vs] } }
        refine tail_any (ops := [.ref a, .ref s4.heap.objs.size]) ht.isList.typeIs (PySem.slot_list_getitem.lookup) ?_ (by with_unfolding_all rfl)
        refine wpAny_getItem_list_slice ht.isList (Heap.IsSliceOf.new _ vl vu vs) pl pu ps (fun z => hs0 (Option.some.inj z)) ?_ (by rw [List.size_toArray]; omega)
        have ep : slicePick its.toArray lo' hi' (some st) = (pick its (placesL lo' hi' (some st) ds.length)).toArray := by
          unfold slicePick pick placesL
          rw [hl5]
          congr 2
          funext k
          simp
        rw [ep]
        have hpl : (pick us (placesL lo' hi' (some st) ds.length)).length ≤ sizeLine := by rw [(pick_rp hr _).length, ll_line]; exact hz
        refine ⟨.ref _, _, I5.laid (t' := s4.toks) (o := .lst (pick us (placesL lo' hi' (some st) ds.length))) (fun b ob q => Heap.get?_push_of_some _ q) (Nat.le_refl _) ⟨hpl, _, 0, pick_vals r _, Heap.get?_push_size _ rfl⟩, rfl, ?_⟩
        exact lst_new (F' := F4) (H' := H4) E4.fh (pick_rp hr _) (fun v F' H' E r => q v F' H' (Eall.trans E) r) (I5.hok.fresh (Nat.le_refl _))
      · cases hS
    | tuple ds =>
      simp only at hS
      split at hS
      · rename_i hz
        cases hS
        obtain ⟨a, us, rfl, hh, hr⟩ := r4.tuple E4.fh
        cases r1
        obtain ⟨its, r, ht, hzz⟩ := I5.tuple hh
        have hlen := r.length
        have hl5 : its.toArray.size = ds.length := by rw [List.size_toArray, ← hlen, hr.length]
        show wpAny (model X.prog X.w) X.A (subscriptTail e (.Slice lo hi (some s) p2) (.ref a) (.ref s4.heap.objs.size)) (EP X pins σ Q) X.xe { s4 with heap := s4.heap.push { cls := .type "slice", data := .fields #[vl, vu, vs] } }
        have hpl : (pick us (placesT lo' hi' st ds.length)).length ≤ sizeLine := by rw [(pick_rp hr _).length, ll_line]; exact hz
        refine tail_any (ops := [.ref a, .ref s4.heap.objs.size]) ht.typeIs (PyProof.Rows.slot_tuple_getitem.lookup) ?_ (by with_unfolding_all rfl)
        refine getItem_tuple_st ht (Heap.IsSliceOf.new _ vl vu vs) pl pu ps hs0 hs1 ?_ ?_
        · rw [hl5]
          refine ⟨.ref _, _, I5.laid (t' := s4.toks) (o := .tup (pick us (placesT lo' hi' st ds.length))) (fun b ob q => Heap.get?_push_of_some _ q) (Nat.le_refl _) ⟨hpl, _, pick_vals r _, IsTup.new _ _⟩, rfl, ?_⟩
          exact tup_new (F' := F4) (H' := H4) E4.fh (pick_rp hr _) (fun v F' H' E r => q v F' H' (Eall.trans E) r) (I5.hok.fresh (Nat.le_refl _))
        · rw [hl5, ← (pick_vals r _).length]; exact hpl
      · cases hS
    | _ => cases hS
  | _ => cases h
/-- a slice of a value that is computed with effects -/
def mSlE (m : Ev → Option (D × Ev)) (ml mh : Ev → Option (Option Int)) : Ev → Option (D × Ev) := fun ρ => (m ρ).bind fun x => (ml x.2).bind fun l => (mh x.2).bind fun h => (slD x.1 l h).map fun z => (z, x.2)
theorem e_slice {ma : Ev → Option (D × Ev)} (he : PE X e (tE X.K R ma)) (hl : PO X lo (tPO X.K R ml)) (hu : PO X hi (tPO X.K R mh)) : PE X (.Subscript e (.Slice lo hi none p2) pos) (tE X.K R (mSlE ma ml mh)) := (pe_slice sl_B he hl hu).imp fun σ H Q ⟨B, F, w, ρ, d, ρ', W, h, q⟩ => by
  obtain ⟨⟨x, ρ1⟩, h1, h⟩ := Option.bind_eq_some_iff.mp h
  obtain ⟨l, h2, h⟩ := Option.bind_eq_some_iff.mp h
  obtain ⟨u, h3, h⟩ := Option.bind_eq_some_iff.mp h
  obtain ⟨z, h4, h⟩ := Option.map_eq_some_iff.mp h
  cases h
  refine ⟨B, F, w, ρ, x, ρ1, W, h1, fun v F1 w1 H1 W1 E1 r1 => ?_⟩
  refine ⟨B, F1, w1, ρ1, l, W1, h2, fun F2 H2 E2 => ?_⟩
  refine ⟨B, F2, w1, ρ1, u, W1.ext E2, h3, fun F3 H3 E3 => ?_⟩
  exact om_sl E3.fh (.inl ((r1.up E2.ff).up E3.ff)) h4 fun y F4 H4 E4 r4 => q y F4 w1 H4 (((W1.ext E2).ext E3).ext E4) ((E1.trans E2.exE).trans (E3.exE.trans E4.exE)) r4
def tPOE (K : PySem.W.Frag) (R : ORel) (m : Ev → Option (Option Int × Ev)) : TO := fun σ H Q => ∃ B F w ρ o ρ', WF K R B F w ρ σ H ∧ m ρ = some (o, ρ') ∧ ∀ F' w' H', WF K R B F' w' ρ' σ H' → ExE F w H F' w' H' → Q o H'
theorem po_noneE : PO X none (tPOE X.K R fun ρ => some (none, ρ)) := ⟨fun pins s σ H Q I ⟨B, F, w, ρ, o, ρ', W, h, q⟩ => by
  cases h
  exact po_none.run pins s σ H Q I (q F w H W .refl)⟩
theorem po_someE {ma : Ev → Option (D × Ev)} (h : PE X e (tE X.K R ma)) : PO X (some e) (tPOE X.K R fun ρ => (ma ρ).bind fun x => (partD (some x.1)).map fun o => (o, x.2)) := ⟨fun pins s σ H Q I ⟨B, F, w, ρ, o, ρ', W, hm, q⟩ => by
  obtain ⟨⟨d, ρ1⟩, h1, h2⟩ := Option.bind_eq_some_iff.mp hm
  obtain ⟨o1, h2, h3⟩ := Option.map_eq_some_iff.mp h2
  cases h3
  refine (po_some h).run pins s σ H Q I ⟨B, F, w, ρ, d, _, W, h1, fun v F' w' H' W' E r => ?_⟩
  cases d with
  | int i =>
    cases h2
    cases r
    exact ⟨_, rfl, q F' w' H' W' E⟩
  | _ => cases h2⟩
def mSlEE (m : Ev → Option (D × Ev)) (ml mh : Ev → Option (Option Int × Ev)) : Ev → Option (D × Ev) := fun ρ => (m ρ).bind fun x => (ml x.2).bind fun l => (mh l.2).bind fun h => (slD x.1 l.1 h.1).map fun z => (z, h.2)
theorem e_sliceE {ma : Ev → Option (D × Ev)} {ml mh : Ev → Option (Option Int × Ev)} (he : PE X e (tE X.K R ma)) (hl : PO X lo (tPOE X.K R ml)) (hu : PO X hi (tPOE X.K R mh)) : PE X (.Subscript e (.Slice lo hi none p2) pos) (tE X.K R (mSlEE ma ml mh)) := (pe_slice sl_B he hl hu).imp fun σ H Q ⟨B, F, w, ρ, d, ρ', W, h, q⟩ => by
  obtain ⟨⟨x, ρ1⟩, h1, h⟩ := Option.bind_eq_some_iff.mp h
  obtain ⟨⟨l, ρ2⟩, h2, h⟩ := Option.bind_eq_some_iff.mp h
  obtain ⟨⟨u, ρ3⟩, h3, h⟩ := Option.bind_eq_some_iff.mp h
  obtain ⟨z, h4, h⟩ := Option.map_eq_some_iff.mp h
  cases h
  refine ⟨B, F, w, ρ, x, ρ1, W, h1, fun v F1 w1 H1 W1 E1 r1 => ?_⟩
  refine ⟨B, F1, w1, ρ1, l, ρ2, W1, h2, fun F2 w2 H2 W2 E2 => ?_⟩
  refine ⟨B, F2, w2, ρ2, u, _, W2, h3, fun F3 w3 H3 W3 E3 => ?_⟩
  exact om_sl W3.fh (.inl ((r1.up E2.ff).up E3.ff)) h4 fun y F4 H4 E4 r4 => q y F4 w3 H4 (W3.ext E4) ((E1.trans E2).trans (E3.trans E4.exE)) r4
end
theorem wP_mSlS {m : Ev → Option D} {l h : Ev → Option (Option Int)} {s : Ev → Option D} {ρ : Ev} {Q : D → Prop} : wP (mSlS m l h s) ρ Q ↔ wP m ρ fun x => wP l ρ fun i => wP h ρ fun j => wP s ρ fun k => match k with | .int st => wO (slSD x i j st) Q | _ => False := by
  constructor
  · rintro ⟨d, e, q⟩
    obtain ⟨x, h1, e⟩ := Option.bind_eq_some_iff.mp e
    obtain ⟨i, h2, e⟩ := Option.bind_eq_some_iff.mp e
    obtain ⟨j, h3, e⟩ := Option.bind_eq_some_iff.mp e
    obtain ⟨k, h4, e⟩ := Option.bind_eq_some_iff.mp e
    refine ⟨x, h1, i, h2, j, h3, k, h4, ?_⟩
    cases k with
    | int st => exact ⟨d, e, q⟩
    | _ => cases e
  · rintro ⟨x, h1, i, h2, j, h3, k, h4, e⟩
    cases k with
    | int st =>
      obtain ⟨d, e, q⟩ := e
      exact ⟨d, by simp [mSlS, h1, h2, h3, h4, e], q⟩
    | _ => exact absurd e id
theorem wE_mSlE {m : Ev → Option (D × Ev)} {l h : Ev → Option (Option Int)} {ρ : Ev} {Q : D → Ev → Prop} : wE (mSlE m l h) ρ Q ↔ wE m ρ fun x ρ1 => wP l ρ1 fun i => wP h ρ1 fun j => wO (slD x i j) fun z => Q z ρ1 := by
  constructor
  · rintro ⟨⟨d, ρ2⟩, e, q⟩
    obtain ⟨⟨x, ρ1⟩, h1, e⟩ := Option.bind_eq_some_iff.mp e
    obtain ⟨i, h2, e⟩ := Option.bind_eq_some_iff.mp e
    obtain ⟨j, h3, e⟩ := Option.bind_eq_some_iff.mp e
    obtain ⟨z, h4, e⟩ := Option.map_eq_some_iff.mp e
    cases e
    exact ⟨_, h1, i, h2, j, h3, _, h4, q⟩
  · rintro ⟨⟨x, ρ1⟩, h1, i, h2, j, h3, z, h4, q⟩
    exact ⟨(z, ρ1), by simp only at h2 h3 h4; simp [mSlE, h1, h2, h3, h4], q⟩
theorem wE_partN {ρ : Ev} {Q : Option Int → Ev → Prop} : wE (fun ρ => some ((none : Option Int), ρ)) ρ Q ↔ Q none ρ := by simp [wE]
theorem wE_part {m : Ev → Option (D × Ev)} {ρ : Ev} {Q : Option Int → Ev → Prop} : wE (fun ρ => (m ρ).bind fun x => (partD (some x.1)).map fun o => (o, x.2)) ρ Q ↔ wE m ρ fun x ρ1 => wO (partD (some x)) fun o => Q o ρ1 := by
  constructor
  · rintro ⟨⟨o, ρ2⟩, e, q⟩
    obtain ⟨⟨x, ρ1⟩, h1, e⟩ := Option.bind_eq_some_iff.mp e
    obtain ⟨z, h2, e⟩ := Option.map_eq_some_iff.mp e
    cases e
    exact ⟨_, h1, _, h2, q⟩
  · rintro ⟨⟨x, ρ1⟩, h1, z, h2, q⟩
    exact ⟨(z, ρ1), by simp only at h2; simp [h1, h2], q⟩
theorem wE_mSlEE {m : Ev → Option (D × Ev)} {l h : Ev → Option (Option Int × Ev)} {ρ : Ev} {Q : D → Ev → Prop} : wE (mSlEE m l h) ρ Q ↔ wE m ρ fun x ρ1 => wE l ρ1 fun i ρ2 => wE h ρ2 fun j ρ3 => wO (slD x i j) fun z => Q z ρ3 := by
  constructor
  · rintro ⟨⟨d, ρ9⟩, e, q⟩
    obtain ⟨⟨x, ρ1⟩, h1, e⟩ := Option.bind_eq_some_iff.mp e
    obtain ⟨⟨i, ρ2⟩, h2, e⟩ := Option.bind_eq_some_iff.mp e
    obtain ⟨⟨j, ρ3⟩, h3, e⟩ := Option.bind_eq_some_iff.mp e
    obtain ⟨z, h4, e⟩ := Option.map_eq_some_iff.mp e
    cases e
    exact ⟨_, h1, _, h2, _, h3, _, h4, q⟩
  · rintro ⟨⟨x, ρ1⟩, h1, ⟨i, ρ2⟩, h2, ⟨j, ρ3⟩, h3, z, h4, q⟩
    exact ⟨(z, ρ3), by simp only at h2 h3 h4; simp [mSlEE, h1, h2, h3, h4], q⟩
/-- a check that is passed -/
theorem wS_chk {t : Ev → Option Bool} {m n : Ev → Option Out} {ρ : Ev} {Q : Out → Prop} (h : wP t ρ fun c => c = false) (k : wS n ρ Q) : wS (mSeq (mIfS t m mNext) n) ρ Q := by
  rw [wS_mSeq, wS_mIfS]
  refine h.mono fun c hc => ?_
  subst hc
  rw [if_neg (fun z => nomatch z), wS_mNext]
  exact k
theorem wS_chkE {t : Ev → Option (Bool × Ev)} {m n : Ev → Option Out} {ρ : Ev} {Q : Out → Prop} (h : wE t ρ fun c ρ1 => c = false ∧ wS n ρ1 Q) : wS (mSeq (mIfSE t m mNext) n) ρ Q := by
  rw [wS_mSeq, wS_mIfSE]
  refine h.mono fun c ρ1 ⟨hc, k⟩ => ?_
  subst hc
  rw [if_neg (fun z => nomatch z), wS_mNext]
  exact k
theorem wS_chk1 {t : Ev → Option Bool} {m : Ev → Option Out} {ρ : Ev} {Q : Out → Prop} (h : wP t ρ fun c => c = false) (k : Q (.nx ρ)) : wS (mIfS t m mNext) ρ Q := by
  rw [wS_mIfS]
  refine h.mono fun c hc => ?_
  subst hc
  rw [if_neg (fun z => nomatch z), wS_mNext]
  exact k
/-- step by step -/
theorem wS_set {i : Nat} {m : Ev → Option D} {n : Ev → Option Out} {ρ : Ev} {Q : Out → Prop} (h : wP m ρ fun d => wS n (ρ.set i (.fr d)) Q) : wS (mSeq (mSet i m) n) ρ Q := by
  rw [wS_mSeq, wS_mSet]; exact h
theorem wS_setE {i : Nat} {m : Ev → Option (D × Ev)} {n : Ev → Option Out} {ρ : Ev} {Q : Out → Prop} (h : wE m ρ fun d ρ1 => wS n (ρ1.set i (.fr d)) Q) : wS (mSeq (mSetE i m) n) ρ Q := by
  rw [wS_mSeq, wS_mSetE]; exact h
theorem wS_setN {i : Nat} {m : Ev → Option (List D)} {n : Ev → Option Out} {ρ : Ev} {Q : Out → Prop} (h : wP m ρ fun d => wS n (ρ.set i (.ow (.list d))) Q) : wS (mSeq (mSetN i m) n) ρ Q := by
  rw [wS_mSeq, wS_mSetN]; exact h
theorem wS_par {is : List Nat} {m : Ev → Option (List SV × Ev)} {n : Ev → Option Out} {ρ : Ev} {Q : Out → Prop} (h : wE m ρ fun x ρ1 => x.length = is.length ∧ wS n (setAll is x ρ1) Q) : wS (mSeq (mPar is m) n) ρ Q := by
  rw [wS_mSeq, wS_mPar]; exact h
theorem wS_forS {mi : Ev → Option (List D)} {mg : D → Ev → Option Ev} {mb n : Ev → Option Out} {ρ : Ev} {Q : Out → Prop} {ds : List D} (hi : wP mi ρ fun x => x = ds) (I : Nat → Ev → Prop) (h0 : I 0 ρ) (hs : ∀ i d ρ, ds[i]? = some d → I i ρ → wO (mg d ρ) fun ρ1 => wS mb ρ1 (Nx (I (i + 1)))) (he : ∀ ρ, I ds.length ρ → wS n ρ Q) : wS (mSeq (mFor mi mg mb) n) ρ Q := by
  rw [wS_mSeq, wS_mFor]
  refine hi.mono fun x hx => ?_
  subst hx
  exact wS_loop I h0 hs he
/-- a def with the box that calls itself -/
def recIO (F : (D → List D → Option (D × D)) → D → List D → Option (D × D)) : Nat → D → List D → Option (D × D)
  | 0 => fun _ _ => none
  | n + 1 => F (recIO F n)
theorem got_recIO {P : Program} {w : World} {K : PySem.W.Frag} {mg : Str → Option Value} {base : Heap} {R : ORel} {c : Nat} {x qual : Str} {st : Stmt} {f : Addr} {fd : FuncData} {N ps : List Str} {L : Nat} {m : (D → List D → Option (D × D)) → Ev → Option Out} (F : Fun K x qual st f fd) (hm : mg x = some (.ref f)) (B : Binds K fd ps []) (S : FnScope N ps (defScope st))
    (hb : ∀ (j : Nat) (g : D → List D → Option (D × D)), Got P w K mg base x (L + j + 1) ps (spIO K R c g) → ∀ (k : Nat) (cdv : Value) (A : Around) (outer : List Env) (s : Shared) (H : Hp) (E : XK), Room (k + (L + j + 1)) (A.deeper (envOfC qual (defScope st) s.heap.objs.size f cdv)) → PSs (cxOf CX0 P w K mg base N qual (defScope st) f cdv A outer s H E).nox (defBody st) (tS K R (m g))) (hN : 1 ≤ N.length := by decide) :
    ∀ j : Nat, Got P w K mg base x (L + j + 1) ps (spIO K R c (recIO (fun g => mFunIO R c N.length ps.length (m g)) j))
  | 0 => ⟨f, fd, hm, F.kp, B, fun k => F.ok S (fun vs H Q E h => by obtain ⟨_, _, _, _, _, _, _, _, _, _, _, _, _, _, h, _⟩ := h; cases h) (fun cdv A outer s H vs Q E hr h => by obtain ⟨_, _, _, _, _, _, _, _, _, _, _, _, _, _, h, _⟩ := h; cases h)⟩
  | j + 1 => ⟨f, fd, hm, F.kp, B, fun k => fn_okIO F S (hb j _ (got_recIO F hm B S hb hN j) k) hN⟩
end Mi

end
section
set_option maxHeartbeats 2000000
open PySem PySem.Spec PyProof.Rows
namespace Mi
open L2
/-! ### i in range(n) -/
section
variable {X : Cx} {R : ORel} {a b e : Expr} {m ma mb : Ev → Option D} {pos p : Pos}
theorem op_notIn_rng : OpR X (compareOp .NotIn) (fun x y H Q => ∃ i a lo hi, x = V.int i ∧ y = V.ref a ∧ H a = some (.rng lo hi) ∧ Q (.bl (!decide (lo ≤ i ∧ i < hi))) H) := by
  intro pins s σ H x y v u Q I rx ry h
  obtain ⟨i, r, lo, hi, rfl, rfl, ha, q⟩ := h
  obtain ⟨k, rfl⟩ := rx
  obtain rfl : u = Value.ref r := ry
  obtain ⟨t1, t2, t3, ho⟩ := I.hok r _ ha
  show wpAny _ _ (do return Value.bool (!(← contains (Value.ref r) (Value.int i k)))) _ _ s
  refine wpAny_bind (wpAny_contains_slot (T := "range") ⟨_, ho, rfl⟩ F.slot_range_contains (call_meets F.slot_range_contains ⟨_, ho, rfl⟩ F.entry_range_contains (F.args_range_contains_2 _ _) (q_contains r lo hi i t1 t2 t3 k) ⟨ho, wpAny_truthy_bool (wpAny_pure ⟨.bl _, H, I, rfl, ?_⟩)⟩))
  rw [place1]
  exact q
theorem cr_range1 : CallR X (.type "range") (fun vs H Q => ∃ j, vs = [V.int j] ∧ ∀ p, H p = none → Q (.ref p) (upd H p (.rng 0 j))) := by
  intro pins s σ H vs us Q I r h
  obtain ⟨j, rfl, q⟩ := h
  obtain ⟨u, rfl, ru⟩ := r.one
  obtain ⟨t, rfl⟩ := ru
  exact call_range_1 ⟨.ref s.heap.objs.size, upd H s.heap.objs.size (.rng 0 j), I.laid (t' := s.toks + 1 + 1) (fun b o e => Heap.get?_push_of_some _ e) (Nat.le_refl _) ⟨s.toks, t, s.toks + 1, Heap.get?_push_size _ rfl⟩, rfl, q _ (I.hok.fresh (Nat.le_refl _))⟩
def inRngD (neg : Bool) (a b : D) : Option D := match a, b with
  | .int i, .int n => some (.bool (neg != decide (0 ≤ i ∧ i < n)))
  | _, _ => none
theorem tr_inRng {K : PySem.W.Frag} {neg : Bool} {r : R2} (hr : ∀ (i : Int) (a : Addr) (n : Int) (H : Hp) (Q : VK), H a = some (.rng 0 n) → Q (.bl (neg != decide (0 ≤ i ∧ i < n))) H → r (.int i) (.ref a) H Q) : ∀ σ H Q, tF K R (m2 (inRngD neg) ma mb) σ H Q → tOp r (tF K R ma) (tCB (fun vs H Q => ∃ j, vs = [V.int j] ∧ ∀ p, H p = none → Q (.ref p) (upd H p (.rng 0 j))) (tCons (tF K R mb) tNil)) σ H Q := fun σ H Q ⟨B, F, w, ρ, d, W, h, q⟩ => by
  obtain ⟨x, h1, h⟩ := Option.bind_eq_some_iff.mp h
  obtain ⟨y, h2, hz⟩ := Option.bind_eq_some_iff.mp h
  clear h
  unfold inRngD at hz
  split at hz
  · rename_i i n
    cases hz
    refine ⟨B, F, w, ρ, _, W, h1, fun v F1 H1 E1 r1 => ?_⟩
    cases r1
    refine ⟨B, F1, w, ρ, _, W.ext E1, h2, fun u F2 H2 E2 r2 => ?_⟩
    cases r2
    refine ⟨n, rfl, fun p np => ?_⟩
    exact hr i p n _ _ upd_same (q _ F2 _ ((E1.trans E2).trans (Ext.newM E2.fh np)) (.bl _))
  · cases hz
theorem pf_inR (ha : PE X a (tF X.K R ma)) (hb : PE X b (tF X.K R mb)) (hg : Gl X "range") (hx : X.mg "range" = none) (he : starEach [b] X.env = (false, eval b X.env) :: starEach [] X.env := by rfl) (hpl : (backTo pos (starEach [] X.env)).any (·.1) = false := by rfl) (hm : behindInMarks .In (.Call (.Name "range" p) [b] [] pos) = false := by rfl) {ps : Pos} :
    PE X (.Compare a [.In] [.Call (.Name "range" p) [b] [] pos] ps) (tF X.K R (m2 (inRngD false) ma mb)) :=
  (pe_cmpR op_in_rng ha (pe_callTy cr_range1 hg hx bi_range (pa_cons hb pa_nil he) (by decide) (by decide) he hpl) hm).imp (tr_inRng fun i a n H Q h q => ⟨i, a, 0, n, rfl, rfl, h, by simpa using q⟩)
theorem pf_notInR (ha : PE X a (tF X.K R ma)) (hb : PE X b (tF X.K R mb)) (hg : Gl X "range") (hx : X.mg "range" = none) (he : starEach [b] X.env = (false, eval b X.env) :: starEach [] X.env := by rfl) (hpl : (backTo pos (starEach [] X.env)).any (·.1) = false := by rfl) (hm : behindInMarks .NotIn (.Call (.Name "range" p) [b] [] pos) = false := by rfl) {ps : Pos} :
    PE X (.Compare a [.NotIn] [.Call (.Name "range" p) [b] [] pos] ps) (tF X.K R (m2 (inRngD true) ma mb)) :=
  (pe_cmpR op_notIn_rng ha (pe_callTy cr_range1 hg hx bi_range (pa_cons hb pa_nil he) (by decide) (by decide) he hpl) hm).imp (tr_inRng fun i a n H Q h q => ⟨i, a, 0, n, rfl, rfl, h, by simpa using q⟩)
theorem pb_inR (ha : PE X a (tF X.K R ma)) (hb : PE X b (tF X.K R mb)) (hg : Gl X "range") (hx : X.mg "range" = none) (he : starEach [b] X.env = (false, eval b X.env) :: starEach [] X.env := by rfl) (hpl : (backTo pos (starEach [] X.env)).any (·.1) = false := by rfl) (hm : behindInMarks .In (.Call (.Name "range" p) [b] [] pos) = false := by rfl) {ps : Pos} :
    PT X (.Compare a [.In] [.Call (.Name "range" p) [b] [] pos] ps) (tB X.K R (mBl (m2 (inRngD false) ma mb))) :=
  (pt_cmpR op_in_rng ha (pe_callTy cr_range1 hg hx bi_range (pa_cons hb pa_nil he) (by decide) (by decide) he hpl) hm).imp (bl_of (tr_inRng (neg := false) (fun i a n H Q h q => ⟨i, a, 0, n, rfl, rfl, h, by simpa using q⟩)))
theorem pb_notInR (ha : PE X a (tF X.K R ma)) (hb : PE X b (tF X.K R mb)) (hg : Gl X "range") (hx : X.mg "range" = none) (he : starEach [b] X.env = (false, eval b X.env) :: starEach [] X.env := by rfl) (hpl : (backTo pos (starEach [] X.env)).any (·.1) = false := by rfl) (hm : behindInMarks .NotIn (.Call (.Name "range" p) [b] [] pos) = false := by rfl) {ps : Pos} :
    PT X (.Compare a [.NotIn] [.Call (.Name "range" p) [b] [] pos] ps) (tB X.K R (mBl (m2 (inRngD true) ma mb))) :=
  (pt_cmpR op_notIn_rng ha (pe_callTy cr_range1 hg hx bi_range (pa_cons hb pa_nil he) (by decide) (by decide) he hpl) hm).imp (bl_of (tr_inRng (neg := true) (fun i a n H Q h q => ⟨i, a, 0, n, rfl, rfl, h, by simpa using q⟩)))
end
section
variable {X : Cx} {R : ORel} {e e2 e3 tg : Expr} {p pos : Pos}
theorem pi_rng3E {n : Ev → Option (List D × Ev)} (hg : Gl X "range") (hm : X.mg "range" = none) (ha : PA X [e, e2, e3] (tAE X.K R n)) (hs : starEach [e, e2, e3] X.env = (false, eval e X.env) :: starEach [e2, e3] X.env := by rfl) (hpl : (backTo pos (starEach [e2, e3] X.env)).any (·.1) = false := by rfl) : PI X tg (.Call (.Name "range" p) [e, e2, e3] [] pos) (tIE X.K R (mCE n fun ds => if ds.length = 3 then rangeD ds else none)) :=
  (pi_range3 hg hm ha hs hpl).imp fun σ H Q ⟨B, F, w, ρ, ds, ρ', W, h, q⟩ => by
    obtain ⟨⟨es, ρ1⟩, h1, h⟩ := Option.bind_eq_some_iff.mp h
    obtain ⟨z, h2, h⟩ := Option.map_eq_some_iff.mp h
    cases h
    have h : (if es.length = 3 then rangeD es else none) = some ds := h2
    split at h
    · refine ⟨B, F, w, ρ, es, ρ1, W, h1, fun vs F1 w1 H1 W1 E1 r1 => ?_⟩
      unfold rangeD at h
      split at h
      · simp at *
      · simp at *
      · split at h
        · rename_i hb
          simp only [Bool.and_eq_true, decide_eq_true_eq] at hb
          injection h with h; subst h
          cases r1 with | cons a t => cases t with | cons b t => cases t with | cons c t =>
            cases t; cases a; cases b; cases c
            exact ⟨_, _, _, _, rfl, ⟨hb.1, hb.2.1, hb.2.2, (Int.toNat_of_nonneg (rangeSize_nn hb.1)).symm⟩, q _ F1 w1 H1 W1 E1 goes_rangeC⟩
        · cases h
      · cases h
    · cases h
end
/-! ### more for laws -/
theorem wE_drawN {b i : Nat} {bx : D} {n : Int} {m : Ev → Option D} {ρ : Ev} {Q : D → Ev → Prop} (hm : m ρ = some (.int n)) (h0 : ρ[i]? = some (.ob 1 bx)) (hb : Bx b bx) (h1 : 0 < n) (h2 : n < 1073741824) (q : ∀ v bx', 0 ≤ v → v < n → Bx b bx' → Q (.int v) (ρ.set i (.ob 1 bx'))) :
    wE (mIO i 1 (mE (mCons m (fun _ => some []))) drawD) ρ Q := by
  rw [wE_io ⟨_, _, h0⟩, wE_mE, wP_mCons]
  refine ⟨_, hm, ?_⟩
  simp only [wP_con, h0]
  exact ⟨trivial, wO_draw hb h1 h2 q⟩
theorem at_mem {xs : List D} {i : Int} {P : D → Prop} (h : 0 ≤ i) (h2 : i < xs.length) (hp : ∀ x ∈ xs, P x) : ∃ x, atI xs i = some x ∧ P x := by
  have h3 : i.toNat < xs.length := by omega
  refine ⟨xs[i.toNat], ?_, hp _ (List.getElem_mem h3)⟩
  rw [at_pos h h2, List.getElem?_eq_getElem h3]
end Mi

end
section
set_option maxHeartbeats 2000000
open PySem PySem.Spec PyProof.Rows
namespace Mi
open L2
/-! ### dicts of one's own, their keys whole numbers -/
def getDc (i : Nat) (ρ : Ev) : Option (List (D × D)) := match ρ[i]? with
  | some (.ow (.dict es)) => some es
  | _ => none
def lookI : List (D × D) → Int → Option D
  | [], _ => none
  | (.int j, v) :: r, i => if j = i then some v else lookI r i
  | _ :: r, i => lookI r i
theorem WF.ownD {K : PySem.W.Frag} {R : ORel} {B : Bs} {F H : Hp} {w : Addr → Option Nat} {ρ : Ev} {σ : St} {i : Nat} {es : List (D × D)} (W : WF K R B F w ρ σ H) (h : getDc i ρ = some es) : ∃ a kvs, σ[i]? = some (some (.ref a)) ∧ w a = some i ∧ H a = some (.dK kvs) ∧ KvR K F kvs es ∧ i < ρ.length := by
  unfold getDc at h
  split at h
  · rename_i es' he
    cases h
    obtain ⟨v, h1, h2⟩ := W.sl i _ he
    rcases h2 with ⟨_, _, _, _, e2, _⟩ | ⟨a, kvs, es, rfl, e2, ha, h3, h4⟩
    · cases e2
    · cases e2; exact ⟨a, kvs, h1, ha, h3, h4, (List.getElem?_eq_some_iff.mp he).1⟩
  · cases h
theorem frs_wrD {K : PySem.W.Frag} {R : ORel} {B : Bs} {F H : Hp} {w : Addr → Option Nat} {ρ : Ev} {σ : St} {i : Nat} {a : Addr} {kvs us : List (Key × V)} {es : List (D × D)} (W : WF K R B F w ρ σ H) (hi : i ≠ 0) (ha : w a = some i) (h : H a = some (.dK kvs)) (hv : σ[i]? = some (some (.ref a))) (r : KvR K F us es) :
    WF K R B F w (ρ.set i (.ow (.dict es))) σ (upd H a (.dK us)) := by
  obtain ⟨f1, f2, f3⟩ := W.wf a i ha
  have hb : B.H a = none := f3.resolve_right (fun z => hi z.2)
  have hfu : Same F (upd H a (.dK us)) := fun b u e => by
    by_cases q : b = a
    · subst q; rw [f1] at e; cases e
    · rw [upd_ne q]; exact W.fh b u e
  refine ⟨hfu, W.f0, W.fn, fun b j z => ?_, fun b ns o z => ?_, fun b z => ?_, by rw [List.length_set]; exact W.len, fun j s z => ?_⟩
  · obtain ⟨z1, z2, z3⟩ := W.wf b j z
    refine ⟨z1, ?_, z3⟩
    by_cases q : b = a
    · subst q; rw [upd_same]; exact fun z => nomatch z
    · rw [upd_ne q]; exact z2
  · rw [upd_ne (ne_of_none z hb)]; exact W.keep b ns o z
  · by_cases q : b = a
    · subst q; rw [upd_same]; exact fun z => nomatch z
    · rw [upd_ne q]; exact W.dom b z
  · rcases getElem?_set_cases z with ⟨rfl, rfl, _⟩ | ⟨hne, z⟩
    · exact ⟨_, hv, .inr ⟨a, us, es, rfl, rfl, ha, upd_same, r⟩⟩
    · refine (W.sl j s z).imp fun v q => q.up (Same.refl _) fun b hb' => ?_
      rw [upd_ne (fun q => by rw [q, ha] at hb'; exact hne (Option.some.inj hb').symm)]
theorem kv_look {K : PySem.W.Frag} {F : Hp} {i : Int} {kvs : List (Key × V)} {es : List (D × D)} (h : KvR K F kvs es) : (lookI es i = none ∧ valV kvs (.inl i) = none) ∨ ∃ d v, lookI es i = some d ∧ valV kvs (.inl i) = some v ∧ Rp K F v d := by
  induction h with
  | nil => exact .inl ⟨rfl, rfl⟩
  | @cons p q l1 l2 hp _ ih =>
    obtain ⟨k, v⟩ := p
    obtain ⟨kd, d⟩ := q
    obtain ⟨h1, h2⟩ := hp
    simp only at h1 h2
    cases k with
    | inl j =>
      subst h1
      by_cases e : j = i
      · subst e
        exact .inr ⟨d, v, if_pos rfl, valV_pos rfl, h2⟩
      · have e1 : lookI ((kD (.inl j), d) :: l2) i = lookI l2 i := if_neg e
        have e2 : valV ((Sum.inl j, v) :: l1) (Sum.inl i : Key) = valV l1 (Sum.inl i) := valV_neg (fun z => e (by injection z))
        rw [e1, e2]; exact ih
    | inr x =>
      subst h1
      have e1 : lookI ((kD (.inr x), d) :: l2) i = lookI l2 i := rfl
      have e2 : valV ((Sum.inr x, v) :: l1) (Sum.inl i : Key) = valV l1 (Sum.inl i) := valV_neg (fun z => nomatch z)
      rw [e1, e2]; exact ih
section
variable {X : Cx} {R : ORel} {e : Expr} {mk mv : Ev → Option D} {pos p apos tpos : Pos}
/-- x = {} -/
def mSetD (i : Nat) : Ev → Option Out := fun ρ => some (.nx (ρ.set i (.ow (.dict []))))
theorem ms_dnew {i : Nat} {x : Str} {pos' : Pos} (hN : X.N.Nodup) (hi : X.N[i]? = some x) (hx : Loc X.env.scope x) (hs : swapsWith (.Dict [] [] p) (some (.Name x pos')) pos.line X.env = pure false := by rfl) (hf : X.fn x = true ∨ X.env.scope.names.lookup x = some .local := by first | exact .inl rfl | exact .inr rfl | assumption) : PS X (.Assign [.Name x pos'] (.Dict [] [] p) pos) (tS X.K R (mSetD i)) :=
  (ps_set hN hi hx pe_dnewK hs hf).imp fun E σ H ⟨B, F, w, ρ, o, W, h, q⟩ => by
    cases h
    intro a np
    have nf : F a = none := W.fh.free np
    obtain ⟨w', W', _⟩ := (W.ext (Ext.newM (o := .dK []) W.fh np)).set1 (i := i) (v := .ref a) (s := .ow (.dict [])) (S := fun b => b = a) (.inr ⟨a, [], [], rfl, rfl, rfl, upd_same, .nil⟩) (frs_new W nf np upd_same)
    exact q F w' _ _ W' (Same.refl _)
/-- x[k] = v, k new in x -/
def mDput (i : Nat) (mv mk : Ev → Option D) : Ev → Option Out := fun ρ => (mv ρ).bind fun v => (mk ρ).bind fun k => match k with
  | .int k => (getDc i ρ).bind fun es => if (lookI es k).isNone = true ∧ es.length < LL then some (.nx (ρ.set i (.ow (.dict (es ++ [(.int k, v)]))))) else none
  | _ => none
theorem ms_dput (i : Nat) {x : Str} {px : Pos} {k : Expr} (hu : X.A.units + 1 < cLine) (he : PE X e (tF X.K R mv)) (hk : PE X k (tF X.K R mk)) (hi : i ≠ 0 := by decide) (hN : X.N[i]? = some x := by rfl) (hv : Vis X.env.scope x := by first | exact Or.inl rfl | exact Or.inr (Or.inl rfl) | exact Or.inr (Or.inr rfl)) (hd : (x == ("__debug__" : Str)) = false := by decide) (hcd : (x == ("__classdict__" : Str)) = false := by decide)
    (hs : swapsWith e (some (.Subscript (.Name x px) k tpos)) pos.line X.env = pure false := by rfl) :
    PS X (.Assign [.Subscript (.Name x px) k tpos] e pos) (tS X.K R (mDput i mv mk)) := (ps_dput hu (pe_var hN hv hd hcd) hk he hs).imp fun E σ H ⟨B, F, w, ρ, o, W, h, q⟩ => by
  obtain ⟨d, h1, h⟩ := Option.bind_eq_some_iff.mp h
  obtain ⟨kd, h2, h⟩ := Option.bind_eq_some_iff.mp h
  cases kd with
  | int k' =>
    obtain ⟨es, h3, h⟩ := Option.bind_eq_some_iff.mp h
    split at h
    · rename_i hc
      cases h
      refine ⟨B, F, w, ρ, d, W, h1, fun v F1 H1 E1 rv => ?_⟩
      obtain ⟨a, kvs, e0, hw, hh, hr, hil⟩ := (W.ext E1).ownD h3
      refine ⟨_, e0, B, F1, w, ρ, .int k', W.ext E1, h2, fun y F2 H2 E2 ry => ?_⟩
      cases ry
      have W2 := (W.ext E1).ext E2
      have hh2 := E2.hh a _ hh
      have hr2 := hr.up E2.ff
      have hn : valV kvs (.inl k' : Key) = none := by
        rcases kv_look (i := k') hr2 with ⟨_, z⟩ | ⟨d', v', z, _⟩
        · exact z
        · rw [z] at hc; exact absurd hc.1 (fun z => nomatch z)
      have hlen : kvs.length = es.length := Paired.length hr2
      refine ⟨a, _, rfl, DPut.k (k := .inl k') hh2 (by rw [hlen, ll_line]; exact hc.2), ?_⟩
      rw [putK_new _ hn]
      exact q F2 w σ _ (frs_wrD W2 hi hw hh2 e0 (Paired.snoc hr2 ⟨rfl, rv.up E2.ff⟩)) (E1.ff.trans E2.ff)
    · cases h
  | _ => cases h
/-- x.get(k) -/
def mDget (i : Nat) (mk : Ev → Option D) : Ev → Option D := fun ρ => (getDc i ρ).bind fun es => (mk ρ).bind fun k => match k with
  | .int k => some ((lookI es k).getD .none)
  | _ => none
theorem pf_dget (i : Nat) {x : Str} {px cpos : Pos} (hu : X.A.units + 1 < cLine) (he : PE X e (tF X.K R mk)) (hN : X.N[i]? = some x := by rfl) (hv : Vis X.env.scope x := by first | exact Or.inl rfl | exact Or.inr (Or.inl rfl) | exact Or.inr (Or.inr rfl)) (hd : (x == ("__debug__" : Str)) = false := by decide) (hcd : (x == ("__classdict__" : Str)) = false := by decide)
    (hba : attributeBase (.Name x px) "get" X.env (eval (.Name x px) X.env) = eval (.Name x px) X.env := by rfl) (hfw : ((backTo cpos (starEach [e] X.env)).all (fun x => !x.1) && (backToKw cpos (keywordEach [] X.env)).all (fun x => x.1.isSome) && decide (([e] : List Expr).length + ([] : List Keyword).length + (if ([] : List Keyword).isEmpty then 0 else 1) < 30)) = true := by rfl) (hln : (apos.endLine == cpos.line) = true := by rfl) (htr : backTo cpos (starEach [e] X.env) = [(false, eval e X.env)] := by rfl) :
    PE X (.Call (.Attribute (.Name x px) "get" apos) [e] [] cpos) (tF X.K R (mDget i mk)) := (pe_dget1 hu (pe_var hN hv hd hcd) he ⟨hba, hfw, hln, htr⟩).imp fun σ H Q ⟨B, F, w, ρ, d, W, h, q⟩ => by
  obtain ⟨es, h3, h⟩ := Option.bind_eq_some_iff.mp h
  obtain ⟨kd, h2, h⟩ := Option.bind_eq_some_iff.mp h
  obtain ⟨a, kvs, e0, hw, hh, hr, hil⟩ := W.ownD h3
  cases kd with
  | int k' =>
    cases h
    refine ⟨_, e0, a, rfl, .inl ⟨kvs, .inl hh⟩, B, F, w, ρ, .int k', W, h2, fun y F2 H2 E2 ry => ?_⟩
    cases ry
    refine ⟨_, DGet.k (k := .inl k') (E2.hh a _ hh), ?_⟩
    have hr2 := hr.up E2.ff
    rcases kv_look (i := k') hr2 with ⟨z1, z2⟩ | ⟨d', v', z1, z2, z3⟩
    · rw [z1] at q
      rw [z2]
      exact q _ F2 H2 E2 .non
    · rw [z1] at q
      rw [z2]
      exact q _ F2 H2 E2 z3
  | _ => cases h
/-- k in x, k not in x -/
def mDin (neg : Bool) (i : Nat) (mk : Ev → Option D) : Ev → Option Bool := fun ρ => (getDc i ρ).bind fun es => (mk ρ).bind fun k => match k with
  | .int k => some (neg != (lookI es k).isSome)
  | _ => none
theorem pb_din (i : Nat) {x : Str} {px : Pos} (hu : X.A.units + 1 < cLine) (he : PE X e (tF X.K R mk)) (hN : X.N[i]? = some x := by rfl) (hv : Vis X.env.scope x := by first | exact Or.inl rfl | exact Or.inr (Or.inl rfl) | exact Or.inr (Or.inr rfl)) (hd : (x == ("__debug__" : Str)) = false := by decide) (hcd : (x == ("__classdict__" : Str)) = false := by decide) (hm : behindInMarks .In (.Name x px) = false := by rfl) :
    PT X (.Compare e [.In] [.Name x px] pos) (tB X.K R (mDin false i mk)) := (pt_cmp (pc_din hu he (pe_var hN hv hd hcd)) hm).imp fun σ H Q ⟨B, F, w, ρ, d, W, h, q⟩ => by
  obtain ⟨es, h3, h⟩ := Option.bind_eq_some_iff.mp h
  obtain ⟨kd, h2, h⟩ := Option.bind_eq_some_iff.mp h
  obtain ⟨a, kvs, e0, hw, hh, hr, hil⟩ := W.ownD h3
  cases kd with
  | int k' =>
    cases h
    refine ⟨B, F, w, ρ, .int k', W, h2, fun y F2 H2 E2 ry => ?_⟩
    cases ry
    refine ⟨_, e0, a, _, rfl, DGet.k (k := .inl k') (E2.hh a _ hh), _, rfl, ?_⟩
    rcases kv_look (i := k') (hr.up E2.ff) with ⟨z1, z2⟩ | ⟨d', v', z1, z2, z3⟩
    · rw [z1] at q
      rw [z2]
      exact q F2 H2 E2
    · rw [z1] at q
      rw [z2]
      exact q F2 H2 E2
  | _ => cases h
theorem pb_dnotin (i : Nat) {x : Str} {px : Pos} (hu : X.A.units + 1 < cLine) (he : PE X e (tF X.K R mk)) (hN : X.N[i]? = some x := by rfl) (hv : Vis X.env.scope x := by first | exact Or.inl rfl | exact Or.inr (Or.inl rfl) | exact Or.inr (Or.inr rfl)) (hd : (x == ("__debug__" : Str)) = false := by decide) (hcd : (x == ("__classdict__" : Str)) = false := by decide) (hm : behindInMarks .NotIn (.Name x px) = false := by rfl) :
    PT X (.Compare e [.NotIn] [.Name x px] pos) (tB X.K R (mDin true i mk)) := (pt_cmp (pc_dnotin hu he (pe_var hN hv hd hcd)) hm).imp fun σ H Q ⟨B, F, w, ρ, d, W, h, q⟩ => by
  obtain ⟨es, h3, h⟩ := Option.bind_eq_some_iff.mp h
  obtain ⟨kd, h2, h⟩ := Option.bind_eq_some_iff.mp h
  obtain ⟨a, kvs, e0, hw, hh, hr, hil⟩ := W.ownD h3
  cases kd with
  | int k' =>
    cases h
    refine ⟨B, F, w, ρ, .int k', W, h2, fun y F2 H2 E2 ry => ?_⟩
    cases ry
    refine ⟨_, e0, a, _, rfl, DGet.k (k := .inl k') (E2.hh a _ hh), _, rfl, ?_⟩
    rcases kv_look (i := k') (hr.up E2.ff) with ⟨z1, z2⟩ | ⟨d', v', z1, z2, z3⟩
    · rw [z1] at q
      rw [z2]
      exact q F2 H2 E2
    · rw [z1] at q
      rw [z2]
      exact q F2 H2 E2
  | _ => cases h
end
/-! steps -/
theorem wS_dnew {i : Nat} {n : Ev → Option Out} {ρ : Ev} {Q : Out → Prop} (h : wS n (ρ.set i (.ow (.dict []))) Q) : wS (mSeq (mSetD i) n) ρ Q := by
  rw [wS_mSeq]
  exact ⟨_, rfl, h⟩
theorem wS_dput {i : Nat} {mv mk : Ev → Option D} {ρ : Ev} {Q : Out → Prop} {v : D} {k : Int} {es : List (D × D)} (h1 : mv ρ = some v) (h2 : mk ρ = some (.int k)) (h3 : ρ[i]? = some (.ow (.dict es))) (h4 : lookI es k = none) (h5 : es.length < LL) (q : Q (.nx (ρ.set i (.ow (.dict (es ++ [(.int k, v)])))))) : wS (mDput i mv mk) ρ Q := by
  refine ⟨_, ?_, q⟩
  unfold mDput
  rw [h1]
  show (mk ρ).bind _ = _
  rw [h2]
  show (getDc i ρ).bind _ = _
  have : getDc i ρ = some es := by unfold getDc; rw [h3]
  rw [this]
  show (if (lookI es k).isNone = true ∧ es.length < LL then _ else _) = _
  rw [h4, if_pos ⟨rfl, h5⟩]
theorem wP_dget {i : Nat} {mk : Ev → Option D} {ρ : Ev} {Q : D → Prop} : wP (mDget i mk) ρ Q ↔ match ρ[i]? with | some (.ow (.dict es)) => wP mk ρ (fun k => match k with | .int k => Q ((lookI es k).getD .none) | _ => False) | _ => False := by
  unfold wP mDget getDc
  split
  · rename_i es he
    cases hm : mk ρ with
    | none => simp
    | some d => cases d <;> simp
  · simp
theorem wP_din {neg : Bool} {i : Nat} {mk : Ev → Option D} {ρ : Ev} {Q : Bool → Prop} : wP (mDin neg i mk) ρ Q ↔ match ρ[i]? with | some (.ow (.dict es)) => wP mk ρ (fun k => match k with | .int k => Q (neg != (lookI es k).isSome) | _ => False) | _ => False := by
  unfold wP mDin getDc
  split
  · rename_i es he
    cases hm : mk ρ with
    | none => simp
    | some d => cases d <;> simp
  · simp
end Mi

end
section
set_option maxHeartbeats 4000000
open PySem PySem.Spec PyProof.Rows
namespace Mi
open L2
def topS (i : Nat) : Stmt := PySem.Challenge.pw_voicescarried_k01_whole_spurts.main.body.getD i (.Pass ⟨0, 0, 0, 0⟩)
def bis : List Str := ["abs", "all", "any", "bool", "enumerate", "int", "isinstance", "len", "list", "max", "min", "range", "str", "tuple"]
abbrev s_is_number : Stmt := topS 1
theorem sc_is_number : FnScope ["value", "least", "most"] ["value", "least", "most"] (defScope s_is_number) := ⟨rfl, rfl, rfl, by decide +kernel, rfl, by decide +kernel, by decide +kernel⟩
abbrev s_is_row : Stmt := topS 2
theorem sc_is_row : FnScope ["value", "least", "most"] ["value", "least", "most"] (defScope s_is_row) := ⟨rfl, rfl, rfl, by decide +kernel, rfl, by decide +kernel, by decide +kernel⟩
abbrev s_loudest : Stmt := topS 4
theorem sc_loudest : FnScope ["frame", "sample"] ["frame"] (defScope s_loudest) := ⟨rfl, rfl, rfl, by decide +kernel, rfl, by decide +kernel, by decide +kernel⟩
abbrev s_is_quiet : Stmt := topS 5
theorem sc_is_quiet : FnScope ["frame", "level"] ["frame", "level"] (defScope s_is_quiet) := ⟨rfl, rfl, rfl, by decide +kernel, rfl, by decide +kernel, by decide +kernel⟩
abbrev s_spurts_of : Stmt := topS 9
theorem sc_spurts_of : FnScope ["frames", "level", "hang", "longest", "found", "left", "index", "frame", "last"] ["frames", "level", "hang", "longest"] (defScope s_spurts_of) := ⟨rfl, rfl, rfl, by decide +kernel, rfl, by decide +kernel, by decide +kernel⟩
abbrev s_are_spurts : Stmt := topS 10
theorem sc_are_spurts : FnScope ["value", "many", "longest", "free", "first", "count", "row"] ["value", "many", "longest"] (defScope s_are_spurts) := ⟨rfl, rfl, rfl, by decide +kernel, rfl, by decide +kernel, by decide +kernel⟩
abbrev s_spurt_at : Stmt := topS 11
theorem sc_spurt_at : FnScope ["spurts", "index", "number", "first", "count"] ["spurts", "index"] (defScope s_spurt_at) := ⟨rfl, rfl, rfl, by decide +kernel, rfl, by decide +kernel, by decide +kernel⟩
abbrev s_hushed : Stmt := topS 12
theorem sc_hushed : FnScope ["frames", "spurts", "found", "index", "frame"] ["frames", "spurts"] (defScope s_hushed) := ⟨rfl, rfl, rfl, by decide +kernel, rfl, by decide +kernel, by decide +kernel⟩
abbrev s_parts_of : Stmt := topS 13
theorem sc_parts_of : FnScope ["frames", "spurts", "first", "count"] ["frames", "spurts"] (defScope s_parts_of) := ⟨rfl, rfl, rfl, by decide +kernel, rfl, by decide +kernel, by decide +kernel⟩
abbrev s__law_box : Stmt := topS 15
theorem sc__law_box : FnScope ["script"] ["script"] (defScope s__law_box) := ⟨rfl, rfl, rfl, by decide +kernel, rfl, by decide +kernel, by decide +kernel⟩
abbrev s__law_load : Stmt := topS 16
theorem sc__law_load : FnScope ["box", "cells", "cell", "size", "first", "second"] ["box"] (defScope s__law_load) := ⟨rfl, rfl, rfl, by decide +kernel, rfl, by decide +kernel, by decide +kernel⟩
abbrev s__law_draw : Stmt := topS 17
theorem sc__law_draw : FnScope ["box", "many", "digit"] ["box", "many"] (defScope s__law_draw) := ⟨rfl, rfl, rfl, by decide +kernel, rfl, by decide +kernel, by decide +kernel⟩
abbrev s__law_same : Stmt := topS 18
theorem sc__law_same : FnScope ["a", "b", "k"] ["a", "b"] (defScope s__law_same) := ⟨rfl, rfl, rfl, by decide +kernel, rfl, by decide +kernel, by decide +kernel⟩
abbrev s__law_spoilt : Stmt := topS 19
theorem sc__law_spoilt : FnScope ["box", "value", "spot", "rows"] ["box", "value"] (defScope s__law_spoilt) := ⟨rfl, rfl, rfl, by decide +kernel, rfl, by decide +kernel, by decide +kernel⟩
abbrev s__law_is_number : Stmt := topS 20
theorem sc__law_is_number : FnScope ["value", "low", "high"] ["value", "low", "high"] (defScope s__law_is_number) := ⟨rfl, rfl, rfl, by decide +kernel, rfl, by decide +kernel, by decide +kernel⟩
abbrev s__law_spurts : Stmt := topS 21
theorem sc__law_spurts : FnScope ["frames", "level", "hang", "longest", "loud", "within", "found", "k", "begins", "frame", "sample"] ["frames", "level", "hang", "longest"] (defScope s__law_spurts) := ⟨rfl, rfl, rfl, by decide +kernel, rfl, by decide +kernel, by decide +kernel⟩
abbrev s__law_are_spurts : Stmt := topS 22
theorem sc__law_are_spurts : FnScope ["value", "many", "longest", "free", "row"] ["value", "many", "longest"] (defScope s__law_are_spurts) := ⟨rfl, rfl, rfl, by decide +kernel, rfl, by decide +kernel, by decide +kernel⟩
abbrev s_law : Stmt := topS 23
theorem sc_law : FnScope ["script", "box", "turn", "size", "level", "hang", "longest", "frames", "due", "here", "number", "place", "index", "loud", "values", "value", "j", "k", "sample", "first", "count"] ["script"] (defScope s_law) := ⟨rfl, rfl, rfl, by decide +kernel, rfl, by decide +kernel, by decide +kernel⟩
theorem units1 {k : Nat} {A : Around} (r : Room k A) : A.units + 1 < cLine := by have := r.un; omega
theorem units65 {k : Nat} {A : Around} (r : Room k A) : A.units + 65 < cLine := by have := r.un; omega
section
variable {P : Program} {w : World} {K : PySem.W.Frag} {mg : Str → Option Value} {base : Heap}
theorem ok_law_box {f : Addr} {fd : FuncData} {k : Nat} (F : Fun K "_law_box" "_law_box" s__law_box f fd) (zl : mg "list" = none) (ze : mg "len" = none) : FnOk P w K mg base CX0 (k + 1) f fd ["script"] (spBox K) := by
  refine F.ok sc__law_box (fun vs H Q E h => ?_) (fun cdv A outer s H vs Q E hr h => ?_)
  · obtain ⟨a, ns, rfl, _⟩ := h
    rfl
  · obtain ⟨a, ns, rfl, hS, hlen, q⟩ := h
    refine ⟨_, pss_one (ps_ret (pe_lst (pa_cons (pe_callTy call_list_of (by rfl) zl bi_list (pa_cons (pe_slice sl_list (pv 0) po_none (po_some pe_int)) pa_nil)) (pa_cons pe_int (pa_cons (pe_op op_add pe_int (pe_callB call_len_seq (by rfl) ze bi_len (pa_cons (pv 0) pa_nil))) pa_nil))))), ?_⟩
    refine ⟨.ref a, rfl, 63, rfl, a, _, rfl, hS, fun p np => ?_⟩
    refine ⟨p, _, rfl, .inl (SqL.of upd_same), fun c nc => ?_⟩
    have e1 : Same H (upd H p (.lst (cutV (ns.map V.int) none (some 63)))) := (Ext.newM (Same.refl H) np).hh
    have e2 : Same H (upd (upd H p (.lst (cutV (ns.map V.int) none (some 63)))) c (.lst (cutV (ns.map V.int) none (some 63)))) := e1.trans (Ext.newM (Same.refl _) nc).hh
    refine ⟨.ref a, rfl, a, _, rfl, .inl (e2.seq hS), _, _, rfl, rfl, by show 3 ≤ sizeLine; decide, fun b nb => ?_⟩
    have nbc : c ≠ b := fun z => by rw [← z, upd_same] at nb; cases nb
    refine q b c _ (e2.trans (Ext.newM (Same.refl _) nb).hh) (e2.free nb) (e1.free nc) ?_ ?_
    · rw [upd_same, List.length_map]
    · rw [upd_ne nbc, upd_same, map_cut63 ns hlen]
def tLoadEnd : TS := fun D σ H => ∃ b c ac sd s1 s2 s3 s4 s5, σ = [some (.ref b), s1, s2, s3, s4, s5] ∧ H b = some (.lst [.ref c, .int ac, .int sd]) ∧ seedOk sd = true ∧ D.rt (.int (mixV sd)) (upd H b (.lst [.ref c, .int ac, .int (mixC sd)]))
def tLoadMid : TS := fun D σ H => ∃ b c ac sd z s1 s2 s4 s5, σ = [some (.ref b), s1, s2, some (.int z), s4, s5] ∧ H b = some (.lst [.ref c, .int ac, .int sd]) ∧ seedOk sd = true ∧ (1000000000000000000 ≤ z → D.rt (.int z) H) ∧ (¬ 1000000000000000000 ≤ z → D.nx σ (upd H b (.lst [.ref c, .int ac, .int ((sd * 69621 + z * 48271 + 11) % 2147483647)])))
theorem mul_sd {sd j : Int} (h : seedOk sd = true) : CMul sd j := by
  simp only [seedOk, Bool.and_eq_true, decide_eq_true_eq] at h
  exact .inl ⟨by omega, by omega⟩
theorem mul_modL {a b : Int} (j : Int) (hb : 0 < b) (hb2 : b < 2 ^ 64) : CMul (a % b) j := .inl ⟨by have := Int.emod_nonneg a (show b ≠ 0 by omega); omega, by have := Int.emod_lt_of_pos a hb; omega⟩
theorem ok_law_load {f : Addr} {fd : FuncData} {k : Nat} (F : Fun K "_law_load" "_law_load" s__law_load f fd) (zi : mg "int" = none) (ze : mg "len" = none) : FnOk P w K mg base CX0 (k + 1) f fd ["box"] (spIO K RB 1 loadD) := by
  refine F.ok sc__law_load (fun vs H Q E h => ?_) (fun cdv A outer s H vs Q E hr h => ?_)
  · obtain ⟨a, us, F', S', d0, ds, d, d1, rfl, e, r, sa, ⟨_, cs, ac, sd, rfl, _⟩, hS, h, q⟩ := h
    simp only [loadD, boxD] at h
    split at h
    · cases r; rfl
    · cases h
  · obtain ⟨b, us, F', S', d0, ds, d, d1, rfl, e, r, sb, ⟨_, cs, ac, sd, rfl, c, _, sc, hb, hc⟩, hS, h, q⟩ := h
    have hds : ds = [] ∧ seedOk sd = true := by
      simp only [loadD, boxD] at h
      split at h
      · rename_i hh
        split at h
        · rename_i h2; cases hh; exact ⟨rfl, h2.1⟩
        · cases h
      · cases h
    obtain ⟨rfl, hsd⟩ := hds
    rw [loadD_box b cs ac sd hsd] at h
    cases h
    cases r
    have nbc : b ≠ c := fun z => by
      subst z
      rw [hb] at hc
      cases cs with
      | nil => cases hc
      | cons x r => cases hc
    refine ⟨_, pss_cons (ps_set (i := 1) sc__law_load.nd rfl (.inl rfl) (pe_ix ix_list (pv 0) pe_int (fun _ _ => rfl)))
      (pss_cons (ps_if (pt_cmpR op_gt (pe_callB call_len_seq (by rfl) ze bi_len (pa_cons (pv 1) pa_nil)) pe_int (nomark _))
        (pss_cons (ps_set (i := 2) sc__law_load.nd rfl (.inl rfl) (pe_callTy call_int1 (by rfl) zi bi_int (pa_cons (pe_bm PySem.F.plainAttrs_list PySem.F.slot_list_pop PySem.F.type_list_pop mt_popAt (pv 1) (pa_cons pe_int pa_nil)) pa_nil)))
        (pss_cons (ps_set (i := 3) sc__law_load.nd rfl (.inl rfl) (pe_ifExp (pt_cmpR op_ge (pv 2) pe_int (nomark _)) (pe_op op_mul pe_int (pv 2)) (pe_op op_sub (pe_op op_mul (pe_un un_neg pe_int) (pv 2)) pe_int)))
(?mid : PSs _ _ tLoadMid))) pss_nil)
      (?tail : PSs _ _ tLoadEnd)), ?_⟩
    · refine PSs.imp (pss_cons (ps_if (pt_cmpR op_ge (pv 3) pe_int (nomark _)) (pss_one (ps_ret (pv 3))) pss_nil)
        (pss_one (ps_asg (pe_op op_mod (pe_callTy call_int1 (by rfl) zi bi_int (pa_cons (pe_op op_add (pe_op op_add (pe_op op_mul (pe_ix ix_list (pv 0) pe_int (fun _ _ => rfl)) pe_int) (pe_op op_mul (pv 3) pe_int)) pe_int) pa_nil)) pe_int) (pg_sub (pv 0) pe_int set_list))))
        (fun E σ H h => ?_)
      obtain ⟨b, c, ac, sd, z, s1, s2, s4, s5, rfl, hb, hsd, q1, q2⟩ := h
      refine ⟨_, rfl, _, _, rfl, rfl, _, rfl, ite2 (fun h => ⟨_, rfl, q1 (of_decide_eq_true h)⟩) (fun h => ?_)⟩
      refine ⟨.ref b, rfl, b, _, 2, .int sd, rfl, rfl, .inl (.inl hb), rfl, sd, 69621, rfl, rfl, mul_sd hsd, _, rfl, _, _, rfl, rfl, .inr ⟨by decide, by decide⟩, _, _, rfl, rfl, _, _, rfl, rfl, .inl ⟨_, rfl, _, _, rfl, rfl, (by show (0 : Int) < _; decide), ?_⟩⟩
      exact ⟨.ref b, rfl, b, _, 2, 2, rfl, rfl, hb, rfl, q2 (fun z => h (decide_eq_true z))⟩
    · refine PSs.imp (pss_cons (ps_set (i := 4) sc__law_load.nd rfl (.inl rfl) (pe_op op_mod (pe_callTy call_int1 (by rfl) zi bi_int (pa_cons (pe_op op_add (pe_op op_mul (pe_ix ix_list (pv 0) pe_int (fun _ _ => rfl)) pe_int) pe_int) pa_nil)) pe_int))
        (pss_cons (ps_set (i := 5) sc__law_load.nd rfl (.inl rfl) (pe_op op_mod (pe_callTy call_int1 (by rfl) zi bi_int (pa_cons (pe_op op_add (pe_op op_mul (pv 4) pe_int) pe_int) pa_nil)) pe_int))
        (pss_cons (ps_asg (pe_op op_mod (pe_callTy call_int1 (by rfl) zi bi_int (pa_cons (pe_op op_add (pe_op op_mul (pv 5) pe_int) pe_int) pa_nil)) pe_int) (pg_sub (pv 0) pe_int set_list))
        (pss_one (ps_ret (pe_op op_add (pe_op op_add (pe_op op_mul (pv 4) pe_int) (pe_op op_mul (pv 5) pe_int)) (pe_ix ix_list (pv 0) pe_int (fun _ _ => rfl))))))))
        (fun E σ H h => ?_)
      obtain ⟨b, c, ac, sd, s1, s2, s3, s4, s5, rfl, hb, hsd, q⟩ := h
      refine ⟨.ref b, rfl, b, _, 2, .int sd, rfl, rfl, .inl (.inl hb), rfl, sd, 48271, rfl, rfl, mul_sd hsd, _, _, rfl, rfl, .inl ⟨_, rfl, _, _, rfl, rfl, (by show (0 : Int) < _; decide), ?_⟩⟩
      refine ⟨_, rfl, _, _, rfl, rfl, mul_modL _ (by decide) (by decide), _, _, rfl, rfl, .inl ⟨_, rfl, _, _, rfl, rfl, (by show (0 : Int) < _; decide), ?_⟩⟩
      refine ⟨_, rfl, _, _, rfl, rfl, mul_modL _ (by decide) (by decide), _, _, rfl, rfl, .inl ⟨_, rfl, _, _, rfl, rfl, (by show (0 : Int) < _; decide), ?_⟩⟩
      refine ⟨.ref b, rfl, b, _, 2, 2, rfl, rfl, hb, rfl, ?_⟩
      refine ⟨_, rfl, _, _, rfl, rfl, mul_modL _ (by decide) (by decide), _, rfl, _, _, rfl, rfl, mul_modL _ (by decide) (by decide), _, _, rfl, rfl, .ref b, rfl, b, _, 2, _, rfl, rfl, .inl (.inl upd_same), rfl, _, _, rfl, rfl, ?_⟩
      exact q
    · refine ⟨.ref b, rfl, b, _, 0, .ref c, rfl, rfl, .inl (.inl hb), rfl, ?_⟩
      cases cs with
      | nil =>
        refine ⟨.ref c, rfl, c, _, rfl, .inl (.inl (.inl hc)), _, _, rfl, rfl, _, rfl, ite2 (fun z => by simp at z) (fun _ => ?_)⟩
        refine ⟨b, c, ac, sd, _, _, _, _, _, rfl, hb, hsd, ?_⟩
        exact box_end e hS sb sc q (fun x n1 n2 => upd_ne n1) upd_same (by rw [upd_ne nbc.symm]; exact hc) (.int _)
      | cons y cs =>
        refine ⟨.ref c, rfl, c, _, rfl, .inl (.inl (.inl hc)), _, _, rfl, rfl, _, rfl, ite2 (fun _ => ?_) (fun z => absurd (decide_eq_true (by simp)) z)⟩
        have hr1 : seqIndex? 0 (List.map V.int (y :: cs)).length = some 0 := seqIndex_of (Int.le_refl 0) (by simp)
        have fin : ∀ s2 s4 s5, tLoadMid { nx := fun σ H => tLoadEnd { nx := fun x H' => Q V.non H', rt := Q } σ H, rt := Q } [some (.ref b), some (.ref c), s2, some (.int (foldN y)), s4, s5] (upd H c (.lst ((List.map V.int (y :: cs)).eraseIdx 0))) := fun s2 s4 s5 => by
          have hb' : (upd H c (.lst ((List.map V.int (y :: cs)).eraseIdx 0))) b = some (.lst [.ref c, .int ac, .int sd]) := by rw [upd_ne nbc]; exact hb
          refine ⟨b, c, ac, sd, foldN y, _, _, _, _, rfl, hb', hsd, fun hz => ?_, fun hz => ?_⟩
          · have el : loadN (y :: cs) sd = (foldN y, cs, sd) := if_pos hz
            rw [el] at q
            exact box_end e hS sb sc q (fun x n1 n2 => upd_ne n2) hb' upd_same (.int _)
          · have el : loadN (y :: cs) sd = (mixV ((sd * 69621 + foldN y * 48271 + 11) % 2147483647), cs, mixC ((sd * 69621 + foldN y * 48271 + 11) % 2147483647)) := if_neg hz
            rw [el] at q
            refine ⟨b, c, ac, (sd * 69621 + foldN y * 48271 + 11) % 2147483647, _, _, _, _, _, rfl, upd_same, ?_, ?_⟩
            · have h1 := Int.emod_nonneg (sd * 69621 + foldN y * 48271 + 11) (show (2147483647 : Int) ≠ 0 by decide)
              have h2 := Int.emod_lt_of_pos (sd * 69621 + foldN y * 48271 + 11) (show (0 : Int) < 2147483647 by decide)
              rw [seedOk, decide_eq_true h1, decide_eq_true (by omega)]; rfl
            · refine box_end e hS sb sc q (fun x n1 n2 => ?_) upd_same ?_ (.int _)
              · rw [upd_ne n1, upd_ne n1, upd_ne n2]
              · rw [upd_ne nbc.symm, upd_ne nbc.symm, upd_same]; rfl
        refine ⟨.ref c, rfl, tyL hc, c, _, 0, 0, .int y, rfl, rfl, hc, by decide, by decide, hr1, rfl, .inl ⟨y, rfl, ?_⟩⟩
        refine ⟨_, rfl, _, _, rfl, rfl, _, rfl, ite2 (fun hy => ?_) (fun hy => ?_)⟩
        · have hy : 0 ≤ y := of_decide_eq_true hy
          refine ⟨_, rfl, 2, y, rfl, rfl, .inl ⟨by decide, by decide⟩, ?_⟩
          have := fin (some (.int y)) none none
          rw [show foldN y = 2 * y from if_pos hy] at this
          exact this
        · have hy : ¬ 0 ≤ y := fun z => hy (decide_eq_true z)
          refine ⟨_, rfl, _, rfl, -2, y, rfl, rfl, .inl ⟨by decide, by decide⟩, _, _, rfl, rfl, ?_⟩
          have := fin (some (.int y)) none none
          rw [show foldN y = -2 * y - 1 from if_neg hy] at this
          exact this
def tDrawEnd : TS := fun D σ H => ∃ b c ac sd n s2, σ = [some (.ref b), some (.int n), s2] ∧ H b = some (.lst [.ref c, .int ac, .int sd]) ∧ 0 < n ∧ n < 1073741824 ∧ D.rt (.int (ac % n)) (upd H b (.lst [.ref c, .int (ac / n), .int sd]))
theorem ok_law_draw {f fL : Addr} {fd fdL : FuncData} {k : Nat} (F : Fun K "_law_draw" "_law_draw" s__law_draw f fd) (FL : Fun K "_law_load" "_law_load" s__law_load fL fdL) (bL : Binds K fdL ["box"] []) (gL : mg "_law_load" = some (.ref fL)) (zi : mg "int" = none) (ze : mg "len" = none) : FnOk P w K mg base CX0 (k + 2) f fd ["box", "many"] (spIO K RB 1 drawD) := by
  have GL : FnOk P w K mg base CX0 (k + 1) fL fdL ["box"] (spIO K RB 1 loadD) := ok_law_load FL zi ze
  refine F.ok sc__law_draw (fun vs H Q E h => ?_) (fun cdv A outer s H vs Q E hr h => ?_)
  · obtain ⟨a, us, F', S', d0, ds, d, d1, rfl, e, r, sa, ⟨_, cs, ac, sd, rfl, _⟩, hS, h, q⟩ := h
    simp only [drawD, boxD] at h
    split at h
    · cases r with
      | cons r1 r2 => cases r2; rfl
    · cases h
  · obtain ⟨b, us, F', S', d0, ds, d, d1, rfl, e, r, sb, ⟨_, cs, ac, sd, rfl, c, _, sc, hb, hc⟩, hS, h, q⟩ := h
    have hds : ∃ n, ds = [.int n] ∧ (seedOk sd = true ∧ 0 < n ∧ n < 1073741824) := by
      simp only [drawD, boxD] at h
      split at h
      · rename_i hh
        split at h
        · rename_i h2; cases hh; exact ⟨_, rfl, h2.1⟩
        · cases h
      · cases h
    obtain ⟨n, rfl, hsd, hn1, hn2⟩ := hds
    rw [drawD_box b cs ac sd n hsd hn1 hn2] at h
    cases h
    cases r with
    | cons r1 r2 => ?_
    cases r2
    cases r1
    have nbc : b ≠ c := fun z => by
      subst z
      rw [hb] at hc
      cases cs with
      | nil => cases hc
      | cons x r => cases hc
    refine ⟨_, pss_cons (ps_if (pt_cmpR op_lt (pe_ix ix_list (pv 0) pe_int (fun _ _ => rfl)) (pv 1) (nomark _))
        (pss_one (ps_asg (pe_call GL hr (by rfl) gL FL.kp bL .nil pass0 (pa_cons (pv 0) pa_nil)) (pg_sub (pv 0) pe_int set_list))) pss_nil)
      (?tail : PSs _ _ tDrawEnd), ?_⟩
    · refine PSs.imp (pss_cons (ps_set (i := 2) sc__law_draw.nd rfl (.inl rfl) (pe_op op_mod (pe_callTy call_int1 (by rfl) zi bi_int (pa_cons (pe_ix ix_list (pv 0) pe_int (fun _ _ => rfl)) pa_nil)) (pv 1)))
        (pss_cons (ps_asg (pe_op op_fdiv (pe_ix ix_list (pv 0) pe_int (fun _ _ => rfl)) (pv 1)) (pg_sub (pv 0) pe_int set_list))
        (pss_one (ps_ret (pv 2)))))
        (fun E σ H h => ?_)
      obtain ⟨b, c, ac, sd, n, s2, rfl, hb, hn1, hn2, q⟩ := h
      refine ⟨.ref b, rfl, b, _, 1, .int ac, rfl, rfl, .inl (.inl hb), rfl, .inl ⟨_, rfl, _, rfl, _, _, rfl, rfl, hn1, ?_⟩⟩
      refine ⟨.ref b, rfl, b, _, 1, .int ac, rfl, rfl, .inl (.inl hb), rfl, _, rfl, _, _, rfl, rfl, ⟨hn1, hn2⟩, .ref b, rfl, b, _, 1, 1, rfl, rfl, hb, rfl, ?_⟩
      exact ⟨_, rfl, q⟩
    · refine ⟨.ref b, rfl, b, _, 1, .int ac, rfl, rfl, .inl (.inl hb), rfl, _, rfl, _, _, rfl, rfl, _, rfl, ite2 (fun hl => ?_) (fun hl => ?_)⟩
      · have hl : ac < n := of_decide_eq_true hl
        have ed : drawN cs ac sd n = ((loadN cs sd).1 % n, (loadN cs sd).2.1, (loadN cs sd).1 / n, (loadN cs sd).2.2) := if_pos hl
        rw [ed] at q
        refine ⟨.ref b, rfl, b, [], F', S', _, [], _, _, rfl, e, .nil, sb, ⟨rfl, cs, ac, sd, rfl, c, sb, sc, hb, hc⟩, hS, loadD_box b cs ac sd hsd, fun v F1 H1 S1 ff fh hk hd nf s1 r1 hS1 rv => ?_⟩
        cases rv
        obtain ⟨_, cs1, ac1, sd1, ee, c1, _, sc1, hb1, hc1⟩ := r1
        obtain ⟨_, rfl, rfl, rfl⟩ := boxD_inj ee
        have nbc1 : b ≠ c1 := fun z => by
          subst z
          rw [hb1] at hc1
          cases h9 : (loadN cs sd).2.1 with
          | nil => rw [h9] at hc1; cases hc1
          | cons x r => rw [h9] at hc1; cases hc1
        refine ⟨.ref b, rfl, b, _, 1, 1, rfl, rfl, hb1, rfl, ?_⟩
        refine ⟨b, c1, (loadN cs sd).1, (loadN cs sd).2.2, n, _, rfl, upd_same, hn1, hn2, ?_⟩
        have hx : ∀ x, x ≠ b → (upd (upd H1 b (.lst [.ref c1, .int (loadN cs sd).1, .int (loadN cs sd).2.2])) b (.lst [.ref c1, .int ((loadN cs sd).1 / n), .int (loadN cs sd).2.2])) x = H1 x := fun x nx => by rw [upd_ne nx, upd_ne nx]
        have hne : ∀ x, H1 x ≠ none → (upd (upd H1 b (.lst [.ref c1, .int (loadN cs sd).1, .int (loadN cs sd).2.2])) b (.lst [.ref c1, .int ((loadN cs sd).1 / n), .int (loadN cs sd).2.2])) x ≠ none := fun x hx1 => by
          by_cases e1 : x = b
          · subst e1; rw [upd_same]; exact fun z => nomatch z
          · rw [hx x e1]; exact hx1
        refine q _ F1 _ S1 ff (fun x u hu => ?_) (fun x o ho ns => ?_) (fun x h0 => hne x (hd x h0)) nf s1 ⟨rfl, _, _, _, rfl, c1, s1, sc1, upd_same, ?_⟩ (fun x hx1 => ⟨(hS1 x hx1).1, hne x (hS1 x hx1).2.1, (hS1 x hx1).2.2⟩) (.int _)
        · have : x ≠ b := fun z => by rw [z, (hS1 b s1).1] at hu; cases hu
          exact (hx x this).trans (fh x u hu)
        · have : x ≠ b := fun z => ns (by rw [z]; exact sb)
          exact (hx x this).trans (hk x o ho ns)
        · exact (hx c1 nbc1.symm).trans hc1
      · have hl : ¬ ac < n := fun z => hl (decide_eq_true z)
        have ed : drawN cs ac sd n = (ac % n, cs, ac / n, sd) := if_neg hl
        rw [ed] at q
        refine ⟨b, c, ac, sd, n, _, rfl, hb, hn1, hn2, ?_⟩
        exact box_end e hS sb sc q (fun x n1 n2 => upd_ne n1) upd_same (by rw [upd_ne nbc.symm]; exact hc) (.int _)

def b_is_number : Ev → Option Out :=
  (mRet (mAnd (mIsi .int (getF 0)) (mAnd (mNot (mIsi .bool (getF 0))) (mChain leD leD (getF 1) (getF 0) (getF 2)))))
def m_is_number : List D → Option D := mFun 3 3 b_is_number
theorem ok_is_number (hb : ∀ x : Str, x ∈ bis → mg x = none)  {f : Addr} {fd : FuncData} (F : Fun K "is_number" "is_number" s_is_number f fd) (hm : mg "is_number" = some (.ref f)) (B : Binds K fd ["value", "least", "most"] []) : Got P w K mg base "is_number" 1 ["value", "least", "most"] (spP K m_is_number) := by
  refine got_P (R := RB) (L := 0) F hm B sc_is_number (fun k cdv A outer s H E hr => ?_)
  show PSs _ _ (tS K RB b_is_number)
  exact (ms_one (ms_ret (pf_and (pf_isi .int (ft (pf_var 0)) (by rfl) (hb "isinstance" (by decide)) (by rfl) (hb "int" (by decide)) bi_int) (pf_and (pf_not (pf_isi .bool (ft (pf_var 0)) (by rfl) (hb "isinstance" (by decide)) (by rfl) (hb "bool" (by decide)) bi_bool)) (pf_one (pf_chain op_le om_le op_le om_le (ft (pf_var 1)) (ft (pf_var 0)) (ft (pf_var 2)) rfl))))))
def b_is_row : Ev → Option Out :=
  (mRet (mAnd (mIsi .tuple (getF 0)) (mChain leD leD (getF 1) (mC (mCons (getF 0) (fun _ => some [])) lenD) (getF 2))))
def m_is_row : List D → Option D := mFun 3 3 b_is_row
theorem ok_is_row (hb : ∀ x : Str, x ∈ bis → mg x = none)  {f : Addr} {fd : FuncData} (F : Fun K "is_row" "is_row" s_is_row f fd) (hm : mg "is_row" = some (.ref f)) (B : Binds K fd ["value", "least", "most"] []) : Got P w K mg base "is_row" 1 ["value", "least", "most"] (spP K m_is_row) := by
  refine got_P (R := RB) (L := 0) F hm B sc_is_row (fun k cdv A outer s H E hr => ?_)
  show PSs _ _ (tS K RB b_is_row)
  exact (ms_one (ms_ret (pf_and (pf_isi .tuple (ft (pf_var 0)) (by rfl) (hb "isinstance" (by decide)) (by rfl) (hb "tuple" (by decide)) bi_tuple) (pf_one (pf_chain op_le om_le op_le om_le (ft (pf_var 1)) (ft (pf_callB call_len cm_len (by rfl) (hb "len" (by decide)) bi_len (pat_cons (ft (pf_var 0)) pat_nil))) (ft (pf_var 2)) rfl)))))
def b_loudest : Ev → Option Out :=
  (mRet (mC (mCons (mList (mLc [1] (mIt (getF 0)) (fun d ρ => some (ρ.set 1 (.fr d))) (fun _ => some true) (mC (mCons (getF 1) (fun _ => some [])) absDD))) (fun _ => some [])) maxDD))
def m_loudest : List D → Option D := mFun 2 1 b_loudest
theorem ok_loudest (hb : ∀ x : Str, x ∈ bis → mg x = none)  {f : Addr} {fd : FuncData} (F : Fun K "loudest" "loudest" s_loudest f fd) (hm : mg "loudest" = some (.ref f)) (B : Binds K fd ["frame"] []) : Got P w K mg base "loudest" 1 ["frame"] (spP K m_loudest) := by
  refine got_P (R := RB) (L := 0) F hm B sc_loudest (fun k cdv A outer s H E hr => ?_)
  show PSs _ _ (tS K RB b_loudest)
  exact (ms_one (ms_ret (pf_callB (cr_maxD rfl hr.units) cm_mm (by rfl) (hb "max" (by decide)) bi_max (pat_cons (ft (nf (pn_lc rfl sc_loudest.nd (own := [("sample", 1)]) (pi_seq (pf_var 0)) (blkOk_by (N := ["frame", "sample"]) (sc := defScope s_loudest) (own := [("sample", 1)]) (by decide +kernel)) (fun _ _ _ _ _ => (pg_nameM sc_loudest.nd rfl (by first | exact .inl rfl | exact .inr rfl))) (fun _ _ _ _ _ => pts_nilM) (fun _ _ _ _ _ => (pf_callB call_abs cm_abs (by rfl) (hb "abs" (by decide)) bi_abs (pat_cons (ft (pf_var 1)) pat_nil)))))) pat_nil))))
def b_spurt_at_1 : Ev → Option Out :=
  (mIfS (mBl (mChain leD ltD (getF 3) (getF 1) (m2 addD (getF 3) (getF 4)))) (mRet (mTup (mCons (getF 2) (mCons (m2 subD (getF 1) (getF 3)) (fun _ => some []))))) mNext)
def b_spurt_at : Ev → Option Out :=
  (mSeq (mFor (fun ρ => (mIt (getF 0) ρ).map enumL) (gT (gsCons (fun d ρ => some (ρ.set 2 (.fr d))) (gsCons (gT (gsCons (fun d ρ => some (ρ.set 3 (.fr d))) (gsCons (fun d ρ => some (ρ.set 4 (.fr d))) (fun ds ρ => if ds = [] then some ρ else none))) 2) (fun ds ρ => if ds = [] then some ρ else none))) 2) b_spurt_at_1)
  (mRet (fun _ => some .none)))
def m_spurt_at : List D → Option D := mFun 5 2 b_spurt_at
theorem ok_spurt_at (hb : ∀ x : Str, x ∈ bis → mg x = none)  {f : Addr} {fd : FuncData} (F : Fun K "spurt_at" "spurt_at" s_spurt_at f fd) (hm : mg "spurt_at" = some (.ref f)) (B : Binds K fd ["spurts", "index"] []) : Got P w K mg base "spurt_at" 1 ["spurts", "index"] (spP K m_spurt_at) := by
  refine got_P (R := RB) (L := 0) F hm B sc_spurt_at (fun k cdv A outer s H E hr => ?_)
  show PSs _ _ (tS K RB b_spurt_at)
  exact (ms_seq (ms_for PassesOwn.never rfl (pi_enumM (by rfl) (hb "enumerate" (by decide)) (pf_var 0)) (pg_tupM rfl (pgs_consM (pg_nameM sc_spurt_at.nd rfl (by first | exact .inl rfl | exact .inr rfl)) (pgs_consM (pg_tupM rfl (pgs_consM (pg_nameM sc_spurt_at.nd rfl (by first | exact .inl rfl | exact .inr rfl)) (pgs_consM (pg_nameM sc_spurt_at.nd rfl (by first | exact .inl rfl | exact .inr rfl)) pgs_nilM))) pgs_nilM))) (ms_one (ms_if (pb_chain op_le om_le op_lt om_lt (ft (pf_var 3)) (ft (pf_var 1)) (ft (pf_bin op_addA om_add (ft (pf_var 3)) (ft (pf_var 4)))) rfl) (ms_one (ms_ret (pf_tup (paf_cons (pf_var 2) (paf_cons (pf_bin op_sub om_sub (ft (pf_var 1)) (ft (pf_var 3))) paf_nil))))) ms_nil)))
      (ms_one (ms_ret pf_non)))
def b_parts_of : Ev → Option Out :=
  (mRet (mC (mCons (mList (mLc [2, 3] (mIt (getF 1)) (gT (gsCons (fun d ρ => some (ρ.set 2 (.fr d))) (gsCons (fun d ρ => some (ρ.set 3 (.fr d))) (fun ds ρ => if ds = [] then some ρ else none))) 2) (fun _ => some true) (mC (mCons (mSl (getF 0) (fun ρ => ((getF 2) ρ).bind fun d => partD (some d)) (fun ρ => ((m2 addD (getF 2) (getF 3)) ρ).bind fun d => partD (some d))) (fun _ => some [])) tupD))) (fun _ => some [])) tupD))
def m_parts_of : List D → Option D := mFun 4 2 b_parts_of
theorem ok_parts_of (hb : ∀ x : Str, x ∈ bis → mg x = none)  {f : Addr} {fd : FuncData} (F : Fun K "parts_of" "parts_of" s_parts_of f fd) (hm : mg "parts_of" = some (.ref f)) (B : Binds K fd ["frames", "spurts"] []) : Got P w K mg base "parts_of" 1 ["frames", "spurts"] (spP K m_parts_of) := by
  refine got_P (R := RB) (L := 0) F hm B sc_parts_of (fun k cdv A outer s H E hr => ?_)
  show PSs _ _ (tS K RB b_parts_of)
  exact (ms_one (ms_ret (pf_callTy call_tuple_of cm_tup (by rfl) (hb "tuple" (by decide)) bi_tuple (pat_cons (ft (nf (pn_lc rfl sc_parts_of.nd (own := [("first", 2), ("count", 3)]) (pi_seq (pf_var 1)) (blkOk_by (N := ["frames", "spurts", "first", "count"]) (sc := defScope s_parts_of) (own := [("first", 2), ("count", 3)]) (by decide +kernel)) (fun _ _ _ _ _ => (pg_tupM rfl (pgs_consM (pg_nameM sc_parts_of.nd rfl (by first | exact .inl rfl | exact .inr rfl)) (pgs_consM (pg_nameM sc_parts_of.nd rfl (by first | exact .inl rfl | exact .inr rfl)) pgs_nilM)))) (fun _ _ _ _ _ => pts_nilM) (fun _ _ _ _ _ => (pf_callTy call_tuple_of cm_tup (by rfl) (hb "tuple" (by decide)) bi_tuple (pat_cons (ft (pf_slice (ft (pf_var 0)) (po_someM (pf_var 2)) (po_someM (pf_bin op_addA om_add (ft (pf_var 2)) (ft (pf_var 3)))))) pat_nil)))))) pat_nil))))
def b__law_is_number : Ev → Option Out :=
  (mRet (mAnd (mIsi .int (getF 0)) (mAnd (mNot (mIsi .bool (getF 0))) (mChain leD leD (getF 1) (getF 0) (getF 2)))))
def m__law_is_number : List D → Option D := mFun 3 3 b__law_is_number
theorem ok__law_is_number (hb : ∀ x : Str, x ∈ bis → mg x = none)  {f : Addr} {fd : FuncData} (F : Fun K "_law_is_number" "_law_is_number" s__law_is_number f fd) (hm : mg "_law_is_number" = some (.ref f)) (B : Binds K fd ["value", "low", "high"] []) : Got P w K mg base "_law_is_number" 1 ["value", "low", "high"] (spP K m__law_is_number) := by
  refine got_P (R := RB) (L := 0) F hm B sc__law_is_number (fun k cdv A outer s H E hr => ?_)
  show PSs _ _ (tS K RB b__law_is_number)
  exact (ms_one (ms_ret (pf_and (pf_isi .int (ft (pf_var 0)) (by rfl) (hb "isinstance" (by decide)) (by rfl) (hb "int" (by decide)) bi_int) (pf_and (pf_not (pf_isi .bool (ft (pf_var 0)) (by rfl) (hb "isinstance" (by decide)) (by rfl) (hb "bool" (by decide)) bi_bool)) (pf_one (pf_chain op_le om_le op_le om_le (ft (pf_var 1)) (ft (pf_var 0)) (ft (pf_var 2)) rfl))))))
def b__law_spurts_1 : Ev → Option Out :=
  (mIfS (mTru (m2 ixD (getF 5) (getF 7))) (mSeq (mSet 8 (mOr (m2 eqD (getF 7) (fun _ => some (.int 0))) (mOr (mNot (m2 ixD (getF 5) (m2 subD (getF 7) (fun _ => some (.int 1))))) (m2 eqD (m2 ixD (m2 ixD (getF 6) (m1 negD (fun _ => some (.int 1)))) (fun _ => some (.int 1))) (getF 3)))))
  (mSet 6 (mIf (mTru (getF 8)) (m2 addD (getF 6) (mList (mLim (mCons (mTup (mCons (getF 7) (mCons (fun _ => some (.int 1)) (fun _ => some [])))) (fun _ => some []))))) (m2 addD (mSl (getF 6) (fun _ => some none) (fun ρ => ((m1 negD (fun _ => some (.int 1))) ρ).bind fun d => partD (some d))) (mList (mLim (mCons (mTup (mCons (m2 ixD (m2 ixD (getF 6) (m1 negD (fun _ => some (.int 1)))) (fun _ => some (.int 0))) (mCons (m2 addD (m2 ixD (m2 ixD (getF 6) (m1 negD (fun _ => some (.int 1)))) (fun _ => some (.int 1))) (fun _ => some (.int 1))) (fun _ => some [])))) (fun _ => some [])))))))) mNext)
def b__law_spurts : Ev → Option Out :=
  (mSeq (mSet 4 (mList (mLc [9] (mIt (getF 0)) (fun d ρ => some (ρ.set 9 (.fr d))) (fun _ => some true) (mC (mCons (mList (mLc [10] (mIt (getF 9)) (fun d ρ => some (ρ.set 10 (.fr d))) (fun _ => some true) (mOr (m2 gtD (getF 10) (getF 1)) (m2 ltD (getF 10) (m1 negD (getF 1)))))) (fun _ => some [])) anyD))))
  (mSeq (mSet 5 (mList (mLc [7] (mC (mCons (mC (mCons (getF 0) (fun _ => some [])) lenD) (fun _ => some [])) fun ds => if ds.length = 1 then rangeD ds else none) (fun d ρ => some (ρ.set 7 (.fr d))) (fun _ => some true) (mC (mCons (mSl (getF 4) (fun ρ => ((mC (mCons (fun _ => some (.int 0)) (mCons (m2 subD (getF 7) (getF 2)) (fun _ => some []))) max2D) ρ).bind fun d => partD (some d)) (fun ρ => ((m2 addD (getF 7) (fun _ => some (.int 1))) ρ).bind fun d => partD (some d))) (fun _ => some [])) anyD))))
  (mSeq (mSet 6 (mList (mLim (fun _ => some []))))
  (mSeq (mFor (mC (mCons (mC (mCons (getF 0) (fun _ => some [])) lenD) (fun _ => some [])) fun ds => if ds.length = 1 then rangeD ds else none) (fun d ρ => some (ρ.set 7 (.fr d))) b__law_spurts_1)
  (mRet (mC (mCons (getF 6) (fun _ => some [])) tupD))))))
def m__law_spurts : List D → Option D := mFun 11 4 b__law_spurts
theorem ok__law_spurts (hb : ∀ x : Str, x ∈ bis → mg x = none)  {f : Addr} {fd : FuncData} (F : Fun K "_law_spurts" "_law_spurts" s__law_spurts f fd) (hm : mg "_law_spurts" = some (.ref f)) (B : Binds K fd ["frames", "level", "hang", "longest"] []) : Got P w K mg base "_law_spurts" 1 ["frames", "level", "hang", "longest"] (spP K m__law_spurts) := by
  refine got_P (R := RB) (L := 0) F hm B sc__law_spurts (fun k cdv A outer s H E hr => ?_)
  show PSs _ _ (tS K RB b__law_spurts)
  exact (ms_seq (ms_set sc__law_spurts.nd (i := 4) rfl (by first | exact .inl rfl | exact .inr rfl) (nf (pn_lc rfl sc__law_spurts.nd (own := [("frame", 9)]) (pi_seq (pf_var 0)) (blkOk_by (N := ["frames", "level", "hang", "longest", "loud", "within", "found", "k", "begins", "frame", "sample"]) (sc := defScope s__law_spurts) (own := [("frame", 9)]) (by decide +kernel)) (fun _ _ _ _ _ => (pg_nameM sc__law_spurts.nd rfl (by first | exact .inl rfl | exact .inr rfl))) (fun _ _ _ _ _ => pts_nilM) (fun _ _ _ _ _ => (pf_callB (cr_anyD rfl) cm_any (by rfl) (hb "any" (by decide)) bi_any (pat_cons (ft (nf (pn_lc rfl sc__law_spurts.nd (own := [("sample", 10)]) (pi_seq (pf_var 9)) (blkOk_by (by rfl)) (fun _ _ _ _ _ => (pg_nameM sc__law_spurts.nd rfl (by first | exact .inl rfl | exact .inr rfl))) (fun _ _ _ _ _ => pts_nilM) (fun _ _ _ _ _ => (pf_or (pf_cmp op_gt om_gt (ft (pf_var 10)) (ft (pf_var 1)) rfl) (pf_one (pf_cmp op_lt om_lt (ft (pf_var 10)) (ft (pf_neg (pf_var 1))) rfl))))))) pat_nil))))))
      (ms_seq (ms_setLc rfl sc__law_spurts.nd (i := 5) rfl rfl (sw_true rfl rfl rfl (by decide +kernel)) (own := [("k", 7)]) (pi_rng1 (by rfl) (hb "range" (by decide)) (paf_cons (pf_callB call_len cm_len (by rfl) (hb "len" (by decide)) bi_len (pat_cons (ft (pf_var 0)) pat_nil)) paf_nil)) (blkOk_by (N := ["frames", "level", "hang", "longest", "loud", "within", "found", "k", "begins", "frame", "sample"]) (sc := defScope s__law_spurts) (own := [("k", 7)]) (by decide +kernel)) (fun _ _ _ _ _ => (pg_nameM sc__law_spurts.nd rfl (by first | exact .inl rfl | exact .inr rfl))) (fun _ _ _ _ _ => pts_nilM) (fun _ _ _ _ _ => (pf_callB (cr_anyD rfl) cm_any (by rfl) (hb "any" (by decide)) bi_any (pat_cons (ft (pf_slice (ft (pf_var 4)) (po_someM (pf_callB (call_max2 rfl) cm_max2 (by rfl) (hb "max" (by decide)) bi_max (pat_cons (ft pf_int) (pat_cons (ft (pf_bin op_sub om_sub (ft (pf_var 7)) (ft (pf_var 2)))) pat_nil)))) (po_someM (pf_bin op_addA om_add (ft (pf_var 7)) (ft pf_int))))) pat_nil))))
      (ms_seq (ms_set sc__law_spurts.nd (i := 6) rfl (by first | exact .inl rfl | exact .inr rfl) (nf (pn_lst paf_nil)))
      (ms_seq (ms_for PassesOwn.never rfl (pi_rng1 (by rfl) (hb "range" (by decide)) (paf_cons (pf_callB call_len cm_len (by rfl) (hb "len" (by decide)) bi_len (pat_cons (ft (pf_var 0)) pat_nil)) paf_nil)) (pg_nameM sc__law_spurts.nd rfl (by first | exact .inl rfl | exact .inr rfl)) (ms_one (ms_if (pb_tru (ft (pf_ix ix_seq om_ix (ft (pf_var 5)) (ft (pf_var 7))))) (ms_seq (ms_set sc__law_spurts.nd (i := 8) rfl (by first | exact .inl rfl | exact .inr rfl) (pf_or (pf_cmp (op_eqD hr.units) om_eq (ft (pf_var 7)) (ft pf_int) rfl) (pf_or (pf_not (pf_ix ix_seq om_ix (ft (pf_var 5)) (ft (pf_bin op_sub om_sub (ft (pf_var 7)) (ft pf_int))))) (pf_one (pf_cmp (op_eqD hr.units) om_eq (ft (pf_ix ix_seq om_ix (ft (pf_ix ix_seq om_ix (ft (pf_var 6)) (ft (pf_neg pf_int)))) (ft pf_int))) (ft (pf_var 3)) rfl)))))
      (ms_one (ms_set sc__law_spurts.nd (i := 6) rfl (by first | exact .inl rfl | exact .inr rfl) (pf_if (pb_tru (ft (pf_var 8))) (pf_bin op_addA om_add (ft (pf_var 6)) (ft (nf (pn_lst (paf_cons (pf_tup (paf_cons (pf_var 7) (paf_cons pf_int paf_nil))) paf_nil))))) (pf_bin op_addA om_add (ft (pf_slice (ft (pf_var 6)) po_noneM (po_someM (pf_neg pf_int)))) (ft (nf (pn_lst (paf_cons (pf_tup (paf_cons (pf_ix ix_seq om_ix (ft (pf_ix ix_seq om_ix (ft (pf_var 6)) (ft (pf_neg pf_int)))) (ft pf_int)) (paf_cons (pf_bin op_addA om_add (ft (pf_ix ix_seq om_ix (ft (pf_ix ix_seq om_ix (ft (pf_var 6)) (ft (pf_neg pf_int)))) (ft pf_int))) (ft pf_int)) paf_nil))) paf_nil))))))))) ms_nil)))
      (ms_one (ms_ret (pf_callTy call_tuple_of cm_tup (by rfl) (hb "tuple" (by decide)) bi_tuple (pat_cons (ft (pf_var 6)) pat_nil))))))))
def b_is_quiet : Ev → Option Out :=
  (mRet (m2 leD (mC (mCons (getF 0) (fun _ => some [])) m_loudest) (getF 1)))
def m_is_quiet : List D → Option D := mFun 2 2 b_is_quiet
theorem ok_is_quiet (hb : ∀ x : Str, x ∈ bis → mg x = none) (g_loudest : Got P w K mg base "loudest" 1 ["frame"] (spP K m_loudest)) {f : Addr} {fd : FuncData} (F : Fun K "is_quiet" "is_quiet" s_is_quiet f fd) (hm : mg "is_quiet" = some (.ref f)) (B : Binds K fd ["frame", "level"] []) : Got P w K mg base "is_quiet" 2 ["frame", "level"] (spP K m_is_quiet) := by
  refine got_P (R := RB) (L := 1) F hm B sc_is_quiet (fun k cdv A outer s H E hr => ?_)
  show PSs _ _ (tS K RB b_is_quiet)
  exact (ms_one (ms_ret (pf_cmp op_le om_le (ft (pf_callG g_loudest hr (by omega) (by rfl) (paf_cons (pf_var 0) paf_nil))) (ft (pf_var 1)) rfl)))
def b_are_spurts_1 : Ev → Option Out :=
  (mSeq (mIfS (mOrB (mNotB (mTru (mC (mCons (getF 4) (mCons (getF 3) (mCons (m2 subD (getF 1) (fun _ => some (.int 1))) (fun _ => some [])))) m_is_number))) (mOrB (mNotB (mTru (mC (mCons (getF 5) (mCons (fun _ => some (.int 1)) (mCons (getF 2) (fun _ => some [])))) m_is_number))) (mBl (m2 gtD (m2 addD (getF 4) (getF 5)) (getF 1))))) (mRet (fun _ => some (.bool false))) mNext)
  (mSet 3 (m2 addD (getF 4) (getF 5))))
def b_are_spurts : Ev → Option Out :=
  (mSeq (mIfS (mOrB (mNotB (mTru (mIsi .tuple (getF 0)))) (mNotB (mTru (mC (mCons (mList (mLc [6] (mIt (getF 0)) (fun d ρ => some (ρ.set 6 (.fr d))) (fun _ => some true) (mC (mCons (getF 6) (mCons (fun _ => some (.int 2)) (mCons (fun _ => some (.int 2)) (fun _ => some [])))) m_is_row))) (fun _ => some [])) allD)))) (mRet (fun _ => some (.bool false))) mNext)
  (mSeq (mSet 3 (fun _ => some (.int 0)))
  (mSeq (mFor (mIt (getF 0)) (gT (gsCons (fun d ρ => some (ρ.set 4 (.fr d))) (gsCons (fun d ρ => some (ρ.set 5 (.fr d))) (fun ds ρ => if ds = [] then some ρ else none))) 2) b_are_spurts_1)
  (mRet (fun _ => some (.bool true))))))
def m_are_spurts : List D → Option D := mFun 7 3 b_are_spurts
theorem ok_are_spurts (hb : ∀ x : Str, x ∈ bis → mg x = none) (g_is_number : Got P w K mg base "is_number" 1 ["value", "least", "most"] (spP K m_is_number)) (g_is_row : Got P w K mg base "is_row" 1 ["value", "least", "most"] (spP K m_is_row)) {f : Addr} {fd : FuncData} (F : Fun K "are_spurts" "are_spurts" s_are_spurts f fd) (hm : mg "are_spurts" = some (.ref f)) (B : Binds K fd ["value", "many", "longest"] []) : Got P w K mg base "are_spurts" 2 ["value", "many", "longest"] (spP K m_are_spurts) := by
  refine got_P (R := RB) (L := 1) F hm B sc_are_spurts (fun k cdv A outer s H E hr => ?_)
  show PSs _ _ (tS K RB b_are_spurts)
  exact (ms_seq (ms_if (PWB.pt (pwb_or (pb_not (pb_tru (ft (pf_isi .tuple (ft (pf_var 0)) (by rfl) (hb "isinstance" (by decide)) (by rfl) (hb "tuple" (by decide)) bi_tuple)))) (pwb_or1 (pb_not (pb_tru (ft (pf_callB (cr_allD rfl) cm_all (by rfl) (hb "all" (by decide)) bi_all (pat_cons (ft (nf (pn_lc rfl sc_are_spurts.nd (own := [("row", 6)]) (pi_seq (pf_var 0)) (blkOk_by (N := ["value", "many", "longest", "free", "first", "count", "row"]) (sc := defScope s_are_spurts) (own := [("row", 6)]) (by decide +kernel)) (fun _ _ _ _ _ => (pg_nameM sc_are_spurts.nd rfl (by first | exact .inl rfl | exact .inr rfl))) (fun _ _ _ _ _ => pts_nilM) (fun _ _ _ _ _ => (pf_callG g_is_row hr (by omega) (by rfl) (paf_cons (pf_var 6) (paf_cons pf_int (paf_cons pf_int paf_nil)))))))) pat_nil)))))))) (ms_one (ms_ret pf_bl)) ms_nil)
      (ms_seq (ms_set sc_are_spurts.nd (i := 3) rfl (by first | exact .inl rfl | exact .inr rfl) pf_int)
      (ms_seq (ms_for PassesOwn.never rfl (pi_seq (pf_var 0)) (pg_tupM rfl (pgs_consM (pg_nameM sc_are_spurts.nd rfl (by first | exact .inl rfl | exact .inr rfl)) (pgs_consM (pg_nameM sc_are_spurts.nd rfl (by first | exact .inl rfl | exact .inr rfl)) pgs_nilM))) (ms_seq (ms_if (PWB.pt (pwb_or (pb_not (pb_tru (ft (pf_callG g_is_number hr (by omega) (by rfl) (paf_cons (pf_var 4) (paf_cons (pf_var 3) (paf_cons (pf_bin op_sub om_sub (ft (pf_var 1)) (ft pf_int)) paf_nil))))))) (pwb_or (pb_not (pb_tru (ft (pf_callG g_is_number hr (by omega) (by rfl) (paf_cons (pf_var 5) (paf_cons pf_int (paf_cons (pf_var 2) paf_nil))))))) (pwb_or1 (pb_cmp op_gt om_gt (ft (pf_bin op_addA om_add (ft (pf_var 4)) (ft (pf_var 5)))) (ft (pf_var 1)) rfl))))) (ms_one (ms_ret pf_bl)) ms_nil)
      (ms_one (ms_set sc_are_spurts.nd (i := 3) rfl (by first | exact .inl rfl | exact .inr rfl) (pf_bin op_addA om_add (ft (pf_var 4)) (ft (pf_var 5)))))))
      (ms_one (ms_ret pf_bl)))))
def b_hushed_1 : Ev → Option Out :=
  (mApp 2 (mE (mIf (mBl (m2 isNotD (mC (mCons (getF 1) (mCons (getF 3) (fun _ => some []))) m_spurt_at) (fun _ => some .none))) (getF 4) (m2 mulD (mTup (mCons (fun _ => some (.int 0)) (fun _ => some []))) (mC (mCons (getF 4) (fun _ => some [])) lenD)))))
def b_hushed : Ev → Option Out :=
  (mSeq (mSetN 2 (mLim (fun _ => some [])))
  (mSeq (mFor (fun ρ => (mIt (getF 0) ρ).map enumL) (gT (gsCons (fun d ρ => some (ρ.set 3 (.fr d))) (gsCons (fun d ρ => some (ρ.set 4 (.fr d))) (fun ds ρ => if ds = [] then some ρ else none))) 2) b_hushed_1)
  (mRet (mC (mCons (getT 2) (fun _ => some [])) tupD))))
def m_hushed : List D → Option D := mFun 5 2 b_hushed
theorem ok_hushed (hb : ∀ x : Str, x ∈ bis → mg x = none) (g_spurt_at : Got P w K mg base "spurt_at" 1 ["spurts", "index"] (spP K m_spurt_at)) {f : Addr} {fd : FuncData} (F : Fun K "hushed" "hushed" s_hushed f fd) (hm : mg "hushed" = some (.ref f)) (B : Binds K fd ["frames", "spurts"] []) : Got P w K mg base "hushed" 2 ["frames", "spurts"] (spP K m_hushed) := by
  refine got_P (R := RB) (L := 1) F hm B sc_hushed (fun k cdv A outer s H E hr => ?_)
  show PSs _ _ (tS K RB b_hushed)
  exact (ms_seq (ms_setN sc_hushed.nd (i := 2) rfl (by first | exact .inl rfl | exact .inr rfl) (pn_lst paf_nil))
      (ms_seq (ms_for PassesOwn.never rfl (pi_enumM (by rfl) (hb "enumerate" (by decide)) (pf_var 0)) (pg_tupM rfl (pgs_consM (pg_nameM sc_hushed.nd rfl (by first | exact .inl rfl | exact .inr rfl)) (pgs_consM (pg_nameM sc_hushed.nd rfl (by first | exact .inl rfl | exact .inr rfl)) pgs_nilM))) (ms_one (ms_app 2 (ef (pf_if (pb_cmp op_isNotA om_isNot (ft (pf_callG g_spurt_at hr (by omega) (by rfl) (paf_cons (pf_var 1) (paf_cons (pf_var 3) paf_nil)))) (ft pf_non) rfl) (pf_var 4) (pf_bin op_mulA om_mul (ft (pf_tup (paf_cons pf_int paf_nil))) (ft (pf_callB call_len cm_len (by rfl) (hb "len" (by decide)) bi_len (pat_cons (ft (pf_var 4)) pat_nil)))))))))
      (ms_one (ms_ret (pf_callTy call_tuple_of cm_tup (by rfl) (hb "tuple" (by decide)) bi_tuple (pat_cons (pt_var 2) pat_nil))))))
def b__law_are_spurts_1 : Ev → Option Out :=
  (mSeq (mIfS (mOrB (mNotB (mTru (mIsi .tuple (getF 4)))) (mOrB (mBl (m2 neD (mC (mCons (getF 4) (fun _ => some [])) lenD) (fun _ => some (.int 2)))) (mOrB (mNotB (mTru (mC (mCons (m2 ixD (getF 4) (fun _ => some (.int 0))) (mCons (getF 3) (mCons (m2 powD (fun _ => some (.int 10)) (fun _ => some (.int 9))) (fun _ => some [])))) m__law_is_number))) (mNotB (mTru (mC (mCons (m2 ixD (getF 4) (fun _ => some (.int 1))) (mCons (fun _ => some (.int 1)) (mCons (getF 2) (fun _ => some [])))) m__law_is_number)))))) (mRet (fun _ => some (.bool false))) mNext)
  (mSet 3 (m2 addD (m2 ixD (getF 4) (fun _ => some (.int 0))) (m2 ixD (getF 4) (fun _ => some (.int 1))))))
def b__law_are_spurts : Ev → Option Out :=
  (mSeq (mIfS (mNotB (mTru (mIsi .tuple (getF 0)))) (mRet (fun _ => some (.bool false))) mNext)
  (mSeq (mSet 3 (fun _ => some (.int 0)))
  (mSeq (mFor (mIt (getF 0)) (fun d ρ => some (ρ.set 4 (.fr d))) b__law_are_spurts_1)
  (mRet (m2 leD (getF 3) (getF 1))))))
def m__law_are_spurts : List D → Option D := mFun 5 3 b__law_are_spurts
theorem ok__law_are_spurts (hb : ∀ x : Str, x ∈ bis → mg x = none) (g__law_is_number : Got P w K mg base "_law_is_number" 1 ["value", "low", "high"] (spP K m__law_is_number)) {f : Addr} {fd : FuncData} (F : Fun K "_law_are_spurts" "_law_are_spurts" s__law_are_spurts f fd) (hm : mg "_law_are_spurts" = some (.ref f)) (B : Binds K fd ["value", "many", "longest"] []) : Got P w K mg base "_law_are_spurts" 2 ["value", "many", "longest"] (spP K m__law_are_spurts) := by
  refine got_P (R := RB) (L := 1) F hm B sc__law_are_spurts (fun k cdv A outer s H E hr => ?_)
  show PSs _ _ (tS K RB b__law_are_spurts)
  exact (ms_seq (ms_if (pb_not (pb_tru (ft (pf_isi .tuple (ft (pf_var 0)) (by rfl) (hb "isinstance" (by decide)) (by rfl) (hb "tuple" (by decide)) bi_tuple)))) (ms_one (ms_ret pf_bl)) ms_nil)
      (ms_seq (ms_set sc__law_are_spurts.nd (i := 3) rfl (by first | exact .inl rfl | exact .inr rfl) pf_int)
      (ms_seq (ms_for PassesOwn.never rfl (pi_seq (pf_var 0)) (pg_nameM sc__law_are_spurts.nd rfl (by first | exact .inl rfl | exact .inr rfl)) (ms_seq (ms_if (PWB.pt (pwb_or (pb_not (pb_tru (ft (pf_isi .tuple (ft (pf_var 4)) (by rfl) (hb "isinstance" (by decide)) (by rfl) (hb "tuple" (by decide)) bi_tuple)))) (pwb_or (pb_cmp (op_neD hr.units) om_ne (ft (pf_callB call_len cm_len (by rfl) (hb "len" (by decide)) bi_len (pat_cons (ft (pf_var 4)) pat_nil))) (ft pf_int) rfl) (pwb_or (pb_not (pb_tru (ft (pf_callG g__law_is_number hr (by omega) (by rfl) (paf_cons (pf_ix ix_seq om_ix (ft (pf_var 4)) (ft pf_int)) (paf_cons (pf_var 3) (paf_cons (pf_bin op_pow om_pow (ft pf_int) (ft pf_int)) paf_nil))))))) (pwb_or1 (pb_not (pb_tru (ft (pf_callG g__law_is_number hr (by omega) (by rfl) (paf_cons (pf_ix ix_seq om_ix (ft (pf_var 4)) (ft pf_int)) (paf_cons pf_int (paf_cons (pf_var 2) paf_nil)))))))))))) (ms_one (ms_ret pf_bl)) ms_nil)
      (ms_one (ms_set sc__law_are_spurts.nd (i := 3) rfl (by first | exact .inl rfl | exact .inr rfl) (pf_bin op_addA om_add (ft (pf_ix ix_seq om_ix (ft (pf_var 4)) (ft pf_int))) (ft (pf_ix ix_seq om_ix (ft (pf_var 4)) (ft pf_int))))))))
      (ms_one (ms_ret (pf_cmp op_le om_le (ft (pf_var 3)) (ft (pf_var 1)) rfl))))))
def b_spurts_of_1 : Ev → Option Out :=
  (mSeq (mIfS (mNotB (mTru (mC (mCons (getF 7) (mCons (getF 1) (fun _ => some []))) m_is_quiet))) (mSet 5 (m2 addD (getF 2) (fun _ => some (.int 1)))) mNext)
  (mSeq (mAug 5 augSub (mE (fun _ => some (.int 1))))
  (mSeq (mIfS (mBl (m2 ltD (getF 5) (fun _ => some (.int 0)))) (fun ρ => some (.ct ρ)) mNext)
  (mSeq (mSet 8 (mIf (mTru (getT 4)) (m2 ixD (getT 4) (m1 negD (fun _ => some (.int 1)))) (mTup (mCons (fun _ => some (.int 0)) (mCons (fun _ => some (.int 0)) (fun _ => some []))))))
  (mIfS (mAndB (mTru (getT 4)) (mAndB (mBl (m2 eqD (m2 addD (m2 ixD (getF 8) (fun _ => some (.int 0))) (m2 ixD (getF 8) (fun _ => some (.int 1)))) (getF 6))) (mBl (m2 ltD (m2 ixD (getF 8) (fun _ => some (.int 1))) (getF 3))))) (mSti 4 (mE (mTup (mCons (m2 ixD (getF 8) (fun _ => some (.int 0))) (mCons (m2 addD (m2 ixD (getF 8) (fun _ => some (.int 1))) (fun _ => some (.int 1))) (fun _ => some []))))) (m1 negD (fun _ => some (.int 1)))) (mApp 4 (mE (mTup (mCons (getF 6) (mCons (fun _ => some (.int 1)) (fun _ => some [])))))))))))
def b_spurts_of : Ev → Option Out :=
  (mSeq (mPar [4, 5] (mConsN (mLim (fun _ => some [])) (mConsS (mE (m1 negD (fun _ => some (.int 1)))) (fun ρ => some ([], ρ)))))
  (mSeq (mFor (fun ρ => (mIt (getF 0) ρ).map enumL) (gT (gsCons (fun d ρ => some (ρ.set 6 (.fr d))) (gsCons (fun d ρ => some (ρ.set 7 (.fr d))) (fun ds ρ => if ds = [] then some ρ else none))) 2) b_spurts_of_1)
  (mRet (mC (mCons (getT 4) (fun _ => some [])) tupD))))
def m_spurts_of : List D → Option D := mFun 9 4 b_spurts_of
theorem ok_spurts_of (hb : ∀ x : Str, x ∈ bis → mg x = none) (g_is_quiet : Got P w K mg base "is_quiet" 2 ["frame", "level"] (spP K m_is_quiet)) {f : Addr} {fd : FuncData} (F : Fun K "spurts_of" "spurts_of" s_spurts_of f fd) (hm : mg "spurts_of" = some (.ref f)) (B : Binds K fd ["frames", "level", "hang", "longest"] []) : Got P w K mg base "spurts_of" 3 ["frames", "level", "hang", "longest"] (spP K m_spurts_of) := by
  refine got_P (R := RB) (L := 2) F hm B sc_spurts_of (fun k cdv A outer s H E hr => ?_)
  show PSs _ _ (tS K RB b_spurts_of)
  exact (ms_seq (ms_p2 rfl sc_spurts_of.nd (i := 4) (j := 5) rfl rfl (by decide) rfl rfl (pas_consN (pn_lst paf_nil) (pas_cons (ef (pf_neg pf_int)) pas_nil)))
      (ms_seq (ms_for PassesOwn.never rfl (pi_enumM (by rfl) (hb "enumerate" (by decide)) (pf_var 0)) (pg_tupM rfl (pgs_consM (pg_nameM sc_spurts_of.nd rfl (by first | exact .inl rfl | exact .inr rfl)) (pgs_consM (pg_nameM sc_spurts_of.nd rfl (by first | exact .inl rfl | exact .inr rfl)) pgs_nilM))) (ms_seq (ms_if (pb_not (pb_tru (ft (pf_callG g_is_quiet hr (by omega) (by rfl) (paf_cons (pf_var 7) (paf_cons (pf_var 1) paf_nil)))))) (ms_one (ms_set sc_spurts_of.nd (i := 5) rfl (by first | exact .inl rfl | exact .inr rfl) (pf_bin op_addA om_add (ft (pf_var 2)) (ft pf_int)))) ms_nil)
      (ms_seq (ms_aug sc_spurts_of.nd (i := 5) rfl (by first | exact .inl rfl | exact .inr rfl) (ef pf_int) iop_sub om_augSub)
      (ms_seq (ms_if (pb_cmp op_lt om_lt (ft (pf_var 5)) (ft pf_int) rfl) (ms_one ms_cont) ms_nil)
      (ms_seq (ms_set sc_spurts_of.nd (i := 8) rfl (by first | exact .inl rfl | exact .inr rfl) (pf_if (pb_tru (pt_var 4)) (pf_ix ix_seq om_ix (pt_var 4) (ft (pf_neg pf_int))) (pf_tup (paf_cons pf_int (paf_cons pf_int paf_nil)))))
      (ms_one (ms_if (PWB.pt (pwb_and (pb_tru (pt_var 4)) (pwb_and (pb_cmp (op_eqD hr.units) om_eq (ft (pf_bin op_addA om_add (ft (pf_ix ix_seq om_ix (ft (pf_var 8)) (ft pf_int))) (ft (pf_ix ix_seq om_ix (ft (pf_var 8)) (ft pf_int))))) (ft (pf_var 6)) rfl) (pwb_and1 (pb_cmp op_lt om_lt (ft (pf_ix ix_seq om_ix (ft (pf_var 8)) (ft pf_int))) (ft (pf_var 3)) rfl))))) (ms_one (ms_sti 4 (ef (pf_tup (paf_cons (pf_ix ix_seq om_ix (ft (pf_var 8)) (ft pf_int)) (paf_cons (pf_bin op_addA om_add (ft (pf_ix ix_seq om_ix (ft (pf_var 8)) (ft pf_int))) (ft pf_int)) paf_nil)))) (pf_neg pf_int))) (ms_one (ms_app 4 (ef (pf_tup (paf_cons (pf_var 6) (paf_cons pf_int paf_nil)))))))))))))
      (ms_one (ms_ret (pf_callTy call_tuple_of cm_tup (by rfl) (hb "tuple" (by decide)) bi_tuple (pat_cons (pt_var 4) pat_nil))))))
def b__law_same (g : List D → Option D) : Ev → Option Out :=
  (mSeq (mIfS (mOrB (mAndB (mTru (mIsi .tuple (getF 0))) (mTru (mIsi .tuple (getF 1)))) (mAndB (mTru (mIsi .list (getF 0))) (mTru (mIsi .list (getF 1))))) (mRet (mAnd (m2 eqD (mC (mCons (getF 0) (fun _ => some [])) lenD) (mC (mCons (getF 1) (fun _ => some [])) lenD)) (mC (mCons (mList (mLc [2] (mC (mCons (mC (mCons (getF 0) (fun _ => some [])) lenD) (fun _ => some [])) fun ds => if ds.length = 1 then rangeD ds else none) (fun d ρ => some (ρ.set 2 (.fr d))) (fun _ => some true) (mC (mCons (m2 ixD (getF 0) (getF 2)) (mCons (m2 ixD (getF 1) (getF 2)) (fun _ => some []))) g))) (fun _ => some [])) allD))) mNext)
  (mSeq (mIfS (mOrB (mTru (mIsi .bool (getF 0))) (mTru (mIsi .bool (getF 1)))) (mRet (mAnd (mIsi .bool (getF 0)) (mAnd (mIsi .bool (getF 1)) (m2 eqD (getF 0) (getF 1))))) mNext)
  (mSeq (mIfS (mOrB (mAndB (mTru (mIsi .int (getF 0))) (mTru (mIsi .int (getF 1)))) (mAndB (mTru (mIsi .str (getF 0))) (mTru (mIsi .str (getF 1))))) (mRet (m2 eqD (getF 0) (getF 1))) mNext)
  (mRet (mAnd (m2 isD (getF 0) (fun _ => some .none)) (m2 isD (getF 1) (fun _ => some .none)))))))
def m__law_same : List D → Option D := recD (fun g => mFun 3 2 (b__law_same g)) 12
theorem ok__law_same (hb : ∀ x : Str, x ∈ bis → mg x = none)  {f : Addr} {fd : FuncData} (F : Fun K "_law_same" "_law_same" s__law_same f fd) (hm : mg "_law_same" = some (.ref f)) (B : Binds K fd ["a", "b"] []) : Got P w K mg base "_law_same" 13 ["a", "b"] (spP K m__law_same) := by
  refine got_rec (R := RB) (L := 0) F hm B sc__law_same (fun j g g_rec k cdv A outer s H E hr => ?_) 12
  show PSs _ _ (tS K RB (b__law_same g))
  exact (ms_seq (ms_if (PWB.pt (pwb_or (PWB.pt (pwb_and (pb_tru (ft (pf_isi .tuple (ft (pf_var 0)) (by rfl) (hb "isinstance" (by decide)) (by rfl) (hb "tuple" (by decide)) bi_tuple))) (pwb_and1 (pb_tru (ft (pf_isi .tuple (ft (pf_var 1)) (by rfl) (hb "isinstance" (by decide)) (by rfl) (hb "tuple" (by decide)) bi_tuple)))))) (pwb_or1 (PWB.pt (pwb_and (pb_tru (ft (pf_isi .list (ft (pf_var 0)) (by rfl) (hb "isinstance" (by decide)) (by rfl) (hb "list" (by decide)) bi_list))) (pwb_and1 (pb_tru (ft (pf_isi .list (ft (pf_var 1)) (by rfl) (hb "isinstance" (by decide)) (by rfl) (hb "list" (by decide)) bi_list))))))))) (ms_one (ms_ret (pf_and (pf_cmp (op_eqD hr.units) om_eq (ft (pf_callB call_len cm_len (by rfl) (hb "len" (by decide)) bi_len (pat_cons (ft (pf_var 0)) pat_nil))) (ft (pf_callB call_len cm_len (by rfl) (hb "len" (by decide)) bi_len (pat_cons (ft (pf_var 1)) pat_nil))) rfl) (pf_one (pf_callB (cr_allD rfl) cm_all (by rfl) (hb "all" (by decide)) bi_all (pat_cons (ft (nf (pn_lc rfl sc__law_same.nd (own := [("k", 2)]) (pi_rng1 (by rfl) (hb "range" (by decide)) (paf_cons (pf_callB call_len cm_len (by rfl) (hb "len" (by decide)) bi_len (pat_cons (ft (pf_var 0)) pat_nil)) paf_nil)) (blkOk_by (N := ["a", "b", "k"]) (sc := defScope s__law_same) (own := [("k", 2)]) (by decide +kernel)) (fun _ _ _ _ _ => (pg_nameM sc__law_same.nd rfl (by first | exact .inl rfl | exact .inr rfl))) (fun _ _ _ _ _ => pts_nilM) (fun _ _ _ _ _ => (pf_callG g_rec hr (by omega) (by rfl) (paf_cons (pf_ix ix_seq om_ix (ft (pf_var 0)) (ft (pf_var 2))) (paf_cons (pf_ix ix_seq om_ix (ft (pf_var 1)) (ft (pf_var 2))) paf_nil))))))) pat_nil)))))) ms_nil)
      (ms_seq (ms_if (PWB.pt (pwb_or (pb_tru (ft (pf_isi .bool (ft (pf_var 0)) (by rfl) (hb "isinstance" (by decide)) (by rfl) (hb "bool" (by decide)) bi_bool))) (pwb_or1 (pb_tru (ft (pf_isi .bool (ft (pf_var 1)) (by rfl) (hb "isinstance" (by decide)) (by rfl) (hb "bool" (by decide)) bi_bool)))))) (ms_one (ms_ret (pf_and (pf_isi .bool (ft (pf_var 0)) (by rfl) (hb "isinstance" (by decide)) (by rfl) (hb "bool" (by decide)) bi_bool) (pf_and (pf_isi .bool (ft (pf_var 1)) (by rfl) (hb "isinstance" (by decide)) (by rfl) (hb "bool" (by decide)) bi_bool) (pf_one (pf_cmp (op_eqD hr.units) om_eq (ft (pf_var 0)) (ft (pf_var 1)) rfl)))))) ms_nil)
      (ms_seq (ms_if (PWB.pt (pwb_or (PWB.pt (pwb_and (pb_tru (ft (pf_isi .int (ft (pf_var 0)) (by rfl) (hb "isinstance" (by decide)) (by rfl) (hb "int" (by decide)) bi_int))) (pwb_and1 (pb_tru (ft (pf_isi .int (ft (pf_var 1)) (by rfl) (hb "isinstance" (by decide)) (by rfl) (hb "int" (by decide)) bi_int)))))) (pwb_or1 (PWB.pt (pwb_and (pb_tru (ft (pf_isi .str (ft (pf_var 0)) (by rfl) (hb "isinstance" (by decide)) (by rfl) (hb "str" (by decide)) bi_str))) (pwb_and1 (pb_tru (ft (pf_isi .str (ft (pf_var 1)) (by rfl) (hb "isinstance" (by decide)) (by rfl) (hb "str" (by decide)) bi_str))))))))) (ms_one (ms_ret (pf_cmp (op_eqD hr.units) om_eq (ft (pf_var 0)) (ft (pf_var 1)) rfl))) ms_nil)
      (ms_one (ms_ret (pf_and (pf_cmp op_isA om_is (ft (pf_var 0)) (ft pf_non) rfl) (pf_one (pf_cmp op_isA om_is (ft (pf_var 1)) (ft pf_non) rfl))))))))
def b__law_spoilt (g : D → List D → Option (D × D)) : Ev → Option Out :=
  (mSeq (mIfSE (mAndBE (mE (mTru (mIsi .tuple (getF 1)))) (mAndBE (mE (mBl (m2 gtD (mC (mCons (getF 1) (fun _ => some [])) lenD) (fun _ => some (.int 0))))) (mBlE (m2E gtD (mIO 0 1 (mE (mCons (fun _ => some (.int 4)) (fun _ => some []))) drawD) (mE (fun _ => some (.int 0))))))) (mSeq (mSetE 2 (mIO 0 1 (mE (mCons (mC (mCons (getF 1) (fun _ => some [])) lenD) (fun _ => some []))) drawD))
  (mRetE (m2E addD (m2E addD (mE (mSl (getF 1) (fun _ => some none) (fun ρ => ((getF 2) ρ).bind fun d => partD (some d)))) (mCE (mConsE (mIO 0 1 (mE (mCons (m2 ixD (getF 1) (getF 2)) (fun _ => some []))) g) (fun ρ => some ([], ρ))) fun ds => if ds.length ≤ LL then some (.tuple ds) else none)) (mE (mSl (getF 1) (fun ρ => ((m2 addD (getF 2) (fun _ => some (.int 1))) ρ).bind fun d => partD (some d)) (fun _ => some none)))))) mNext)
  (mSeq (mSet 3 (mList (mLim (mCons (fun _ => some .none) (mCons (mTup (fun _ => some [])) (mCons (fun _ => some (.int 0)) (mCons (m1 negD (fun _ => some (.int 1))) (mCons (fun _ => some (.bool true)) (mCons (fun _ => some (.str "a")) (mCons (mTup (mCons (fun _ => some (.int 0)) (fun _ => some []))) (mCons (fun _ => some (.int 256)) (mCons (fun _ => some (.int 1000001)) (fun _ => some [])))))))))))))
  (mSeq (mIfS (mAndB (mTru (mIsi .int (getF 1))) (mNotB (mTru (mIsi .bool (getF 1))))) (mSet 3 (m2 addD (getF 3) (mList (mLim (mCons (m2 addD (getF 1) (fun _ => some (.int 1))) (mCons (m2 subD (getF 1) (fun _ => some (.int 1))) (mCons (m2 eqD (getF 1) (fun _ => some (.int 1))) (mCons (m1 negD (getF 1)) (mCons (m2 addD (getF 1) (fun _ => some (.int 256))) (fun _ => some [])))))))))) mNext)
  (mSeq (mIfS (mTru (mIsi .tuple (getF 1))) (mSet 3 (m2 addD (getF 3) (mList (mLim (mCons (m2 addD (getF 1) (mTup (mCons (fun _ => some (.int 0)) (fun _ => some [])))) (mCons (mSl (getF 1) (fun _ => some none) (fun ρ => ((m1 negD (fun _ => some (.int 1))) ρ).bind fun d => partD (some d))) (mCons (mSlS (getF 1) (fun _ => some none) (fun _ => some none) (m1 negD (fun _ => some (.int 1)))) (mCons (mSl (getF 1) (fun ρ => ((fun _ => some (.int 1)) ρ).bind fun d => partD (some d)) (fun _ => some none)) (mCons (m2 addD (getF 1) (mSl (getF 1) (fun ρ => ((m1 negD (fun _ => some (.int 1))) ρ).bind fun d => partD (some d)) (fun _ => some none))) (fun _ => some [])))))))))) mNext)
  (mRetE (m2E ixD (mE (getF 3)) (mIO 0 1 (mE (mCons (mC (mCons (getF 3) (fun _ => some [])) lenD) (fun _ => some []))) drawD)))))))
def m__law_spoilt : D → List D → Option (D × D) := recIO (fun g => mFunIO RB 1 4 2 (b__law_spoilt g)) 12
theorem ok__law_spoilt (hb : ∀ x : Str, x ∈ bis → mg x = none) (g__law_draw : Got P w K mg base "_law_draw" 2 ["box", "many"] (spIO K RB 1 drawD)) {f : Addr} {fd : FuncData} (F : Fun K "_law_spoilt" "_law_spoilt" s__law_spoilt f fd) (hm : mg "_law_spoilt" = some (.ref f)) (B : Binds K fd ["box", "value"] []) : Got P w K mg base "_law_spoilt" 15 ["box", "value"] (spIO K RB 1 m__law_spoilt) := by
  refine got_recIO (R := RB) (c := 1) (L := 2) F hm B sc__law_spoilt (fun j g g_rec k cdv A outer s H E hr => ?_) (by decide) 12
  show PSs _ _ (tS K RB (b__law_spoilt g))
  exact (ms_seq (ms_ifE (PWE.pt (pwe_and (eb (pb_tru (ft (pf_isi .tuple (ft (pf_var 1)) (by rfl) (hb "isinstance" (by decide)) (by rfl) (hb "tuple" (by decide)) bi_tuple)))) (pwe_and (eb (pb_cmp op_gt om_gt (ft (pf_callB call_len cm_len (by rfl) (hb "len" (by decide)) bi_len (pat_cons (ft (pf_var 1)) pat_nil))) (ft pf_int) rfl)) (pwe_and1 (eb_cmp op_gt om_gt (e_ioG 0 1 g__law_draw hr (by omega) (by rfl) (ea (paf_cons pf_int paf_nil))) (ef pf_int) rfl))))) (ms_seq (ms_setE sc__law_spoilt.nd (i := 2) rfl (by first | exact .inl rfl | exact .inr rfl) (e_ioG 0 1 g__law_draw hr (by omega) (by rfl) (ea (paf_cons (pf_callB call_len cm_len (by rfl) (hb "len" (by decide)) bi_len (pat_cons (ft (pf_var 1)) pat_nil)) paf_nil))))
      (ms_one (ms_retE (e_bin op_addA om_add (e_bin op_addA om_add (ef (pf_slice (ft (pf_var 1)) po_noneM (po_someM (pf_var 2)))) (e_tup (pae_cons (e_ioG 0 1 g_rec hr (by omega) (by rfl) (ea (paf_cons (pf_ix ix_seq om_ix (ft (pf_var 1)) (ft (pf_var 2))) paf_nil))) pae_nil))) (ef (pf_slice (ft (pf_var 1)) (po_someM (pf_bin op_addA om_add (ft (pf_var 2)) (ft pf_int))) po_noneM)))))) ms_nil)
      (ms_seq (ms_set sc__law_spoilt.nd (i := 3) rfl (by first | exact .inl rfl | exact .inr rfl) (nf (pn_lst (paf_cons pf_non (paf_cons (pf_tup paf_nil) (paf_cons pf_int (paf_cons (pf_neg pf_int) (paf_cons pf_bl (paf_cons pf_str (paf_cons (pf_tup (paf_cons pf_int paf_nil)) (paf_cons pf_int (paf_cons pf_int paf_nil))))))))))))
      (ms_seq (ms_if (PWB.pt (pwb_and (pb_tru (ft (pf_isi .int (ft (pf_var 1)) (by rfl) (hb "isinstance" (by decide)) (by rfl) (hb "int" (by decide)) bi_int))) (pwb_and1 (pb_not (pb_tru (ft (pf_isi .bool (ft (pf_var 1)) (by rfl) (hb "isinstance" (by decide)) (by rfl) (hb "bool" (by decide)) bi_bool))))))) (ms_one (ms_set sc__law_spoilt.nd (i := 3) rfl (by first | exact .inl rfl | exact .inr rfl) (pf_bin op_addA om_add (ft (pf_var 3)) (ft (nf (pn_lst (paf_cons (pf_bin op_addA om_add (ft (pf_var 1)) (ft pf_int)) (paf_cons (pf_bin op_sub om_sub (ft (pf_var 1)) (ft pf_int)) (paf_cons (pf_cmp (op_eqD hr.units) om_eq (ft (pf_var 1)) (ft pf_int) rfl) (paf_cons (pf_neg (pf_var 1)) (paf_cons (pf_bin op_addA om_add (ft (pf_var 1)) (ft pf_int)) paf_nil))))))))))) ms_nil)
      (ms_seq (ms_if (pb_tru (ft (pf_isi .tuple (ft (pf_var 1)) (by rfl) (hb "isinstance" (by decide)) (by rfl) (hb "tuple" (by decide)) bi_tuple))) (ms_one (ms_set sc__law_spoilt.nd (i := 3) rfl (by first | exact .inl rfl | exact .inr rfl) (pf_bin op_addA om_add (ft (pf_var 3)) (ft (nf (pn_lst (paf_cons (pf_bin op_addA om_add (ft (pf_var 1)) (ft (pf_tup (paf_cons pf_int paf_nil)))) (paf_cons (pf_slice (ft (pf_var 1)) po_noneM (po_someM (pf_neg pf_int))) (paf_cons (pf_sliceS (ft (pf_var 1)) po_noneM po_noneM (pf_neg pf_int)) (paf_cons (pf_slice (ft (pf_var 1)) (po_someM pf_int) po_noneM) (paf_cons (pf_bin op_addA om_add (ft (pf_var 1)) (ft (pf_slice (ft (pf_var 1)) (po_someM (pf_neg pf_int)) po_noneM))) paf_nil))))))))))) ms_nil)
      (ms_one (ms_retE (e_ix ix_seq om_ix (ef (pf_var 3)) (e_ioG 0 1 g__law_draw hr (by omega) (by rfl) (ea (paf_cons (pf_callB call_len cm_len (by rfl) (hb "len" (by decide)) bi_len (pat_cons (ft (pf_var 3)) pat_nil)) paf_nil))))))))))
def b_law_1 : Ev → Option Out :=
  (mIfS (mNotB (mTru (mC (mCons (mC (mCons (getF 15) (mCons (mC (mCons (getF 7) (fun _ => some [])) lenD) (mCons (getF 6) (fun _ => some [])))) m_are_spurts) (mCons (mC (mCons (getF 15) (mCons (mC (mCons (getF 7) (fun _ => some [])) lenD) (mCons (getF 6) (fun _ => some [])))) m__law_are_spurts) (fun _ => some []))) m__law_same))) (mRet (fun _ => some (.bool false))) mNext)
def b_law_2 : Ev → Option Out :=
  (mSeq (mSet 13 (mC (mCons (mList (mLc [18] (mIt (m2 ixD (getF 7) (getF 12))) (fun d ρ => some (ρ.set 18 (.fr d))) (fun _ => some true) (m2 gtD (mC (mCons (getF 18) (fun _ => some [])) absDD) (getF 4)))) (fun _ => some [])) anyD))
  (mIfS (mOrB (mNotB (mTru (mC (mCons (mC (mCons (getF 8) (mCons (getF 12) (fun _ => some []))) m_spurt_at) (mCons (mDget 9 (getF 12)) (fun _ => some []))) m__law_same))) (mAndB (mTru (getF 13)) (mDin true 9 (getF 12)))) (mRet (fun _ => some (.bool false))) mNext))
def b_law_3 : Ev → Option Out :=
  (mDput 9 (mTup (mCons (getF 10) (mCons (getF 11) (fun _ => some [])))) (m2 addD (m2 ixD (m2 ixD (getF 8) (getF 10)) (fun _ => some (.int 0))) (getF 11)))
def b_law_4 : Ev → Option Out :=
  (mFor (mC (mCons (m2 ixD (m2 ixD (getF 8) (getF 10)) (fun _ => some (.int 1))) (fun _ => some [])) fun ds => if ds.length = 1 then rangeD ds else none) (fun d ρ => some (ρ.set 11 (.fr d))) b_law_3)
def b_law_5 : Ev → Option Out :=
  (mSeq (mPar [3, 4, 5, 6] (mConsS (m2E addD (mE (fun _ => some (.int 1))) (mIO 1 1 (mE (mCons (fun _ => some (.int 3)) (fun _ => some []))) drawD)) (mConsS (m2E ixD (mE (mList (mLim (mCons (fun _ => some (.int 0)) (mCons (fun _ => some (.int 1)) (mCons (fun _ => some (.int 3)) (mCons (fun _ => some (.int 255)) (fun _ => some [])))))))) (mIO 1 1 (mE (mCons (fun _ => some (.int 4)) (fun _ => some []))) drawD)) (mConsS (m2E ixD (mE (mList (mLim (mCons (fun _ => some (.int 0)) (mCons (fun _ => some (.int 0)) (mCons (fun _ => some (.int 1)) (mCons (fun _ => some (.int 2)) (mCons (fun _ => some (.int 8)) (fun _ => some []))))))))) (mIO 1 1 (mE (mCons (fun _ => some (.int 5)) (fun _ => some []))) drawD)) (mConsS (m2E ixD (mE (mList (mLim (mCons (fun _ => some (.int 1)) (mCons (fun _ => some (.int 2)) (mCons (fun _ => some (.int 3)) (mCons (fun _ => some (.int 5)) (mCons (fun _ => some (.int 32)) (fun _ => some []))))))))) (mIO 1 1 (mE (mCons (fun _ => some (.int 5)) (fun _ => some []))) drawD)) (fun ρ => some ([], ρ)))))))
  (mSeq (mSetE 7 (mCE (mConsE (mCE (mLcE [16] (mCE (mConsE (mIO 1 1 (mE (mCons (fun _ => some (.int 30)) (fun _ => some []))) drawD) (fun ρ => some ([], ρ))) fun ds => if ds.length = 1 then rangeD ds else none) (fun d ρ => some (ρ.set 16 (.fr d))) (fun ρ => some (true, ρ)) (mCE (mConsE (mCE (mLcE [17] (mE (mC (mCons (getF 3) (fun _ => some [])) fun ds => if ds.length = 1 then rangeD ds else none)) (fun d ρ => some (ρ.set 17 (.fr d))) (fun ρ => some (true, ρ)) (mIfE (mBlE (m2E eqD (mIO 1 1 (mE (mCons (fun _ => some (.int 3)) (fun _ => some []))) drawD) (mE (fun _ => some (.int 0))))) (m2E ixD (mE (mList (mLim (mCons (fun _ => some (.int 0)) (mCons (getF 4) (mCons (m1 negD (getF 4)) (mCons (mC (mCons (fun _ => some (.int 255)) (mCons (m2 addD (getF 4) (fun _ => some (.int 1))) (fun _ => some []))) min2D) (mCons (mC (mCons (m1 negD (fun _ => some (.int 256))) (mCons (m2 subD (m1 negD (getF 4)) (fun _ => some (.int 1))) (fun _ => some []))) max2D) (fun _ => some []))))))))) (mIO 1 1 (mE (mCons (fun _ => some (.int 5)) (fun _ => some []))) drawD)) (mE (fun _ => some (.int 0))))) fun ds => some (.list ds)) (fun ρ => some ([], ρ))) tupD)) fun ds => some (.list ds)) (fun ρ => some ([], ρ))) tupD))
  (mSeq (mSet 8 (mC (mCons (getF 7) (mCons (getF 4) (mCons (getF 5) (mCons (getF 6) (fun _ => some []))))) m__law_spurts))
  (mSeq (mIfS (mOrB (mNotB (mTru (mC (mCons (mC (mCons (getF 7) (mCons (getF 4) (mCons (getF 5) (mCons (getF 6) (fun _ => some []))))) m_spurts_of) (mCons (getF 8) (fun _ => some []))) m__law_same))) (mBl (m2 isNotD (mC (mCons (getF 8) (mCons (mC (mCons (getF 7) (fun _ => some [])) lenD) (mCons (getF 6) (fun _ => some [])))) m_are_spurts) (fun _ => some (.bool true))))) (mRet (fun _ => some (.bool false))) mNext)
  (mSeq (mSetD 9)
  (mSeq (mFor (mC (mCons (mC (mCons (getF 8) (fun _ => some [])) lenD) (fun _ => some [])) fun ds => if ds.length = 1 then rangeD ds else none) (fun d ρ => some (ρ.set 10 (.fr d))) b_law_4)
  (mSeq (mFor (mC (mCons (mC (mCons (getF 7) (fun _ => some [])) lenD) (fun _ => some [])) fun ds => if ds.length = 1 then rangeD ds else none) (fun d ρ => some (ρ.set 12 (.fr d))) b_law_2)
  (mSeq (mIfS (mNotB (mTru (mC (mCons (mC (mCons (getF 7) (mCons (getF 8) (fun _ => some []))) m_hushed) (mCons (mC (mCons (mList (mLc [17] (mC (mCons (mC (mCons (getF 7) (fun _ => some [])) lenD) (fun _ => some [])) fun ds => if ds.length = 1 then rangeD ds else none) (fun d ρ => some (ρ.set 17 (.fr d))) (fun _ => some true) (mIf (mDin false 9 (getF 17)) (m2 ixD (getF 7) (getF 17)) (m2 mulD (mTup (mCons (fun _ => some (.int 0)) (fun _ => some []))) (getF 3))))) (fun _ => some [])) tupD) (fun _ => some []))) m__law_same))) (mRet (fun _ => some (.bool false))) mNext)
  (mSeq (mIfS (mAndB (mBl (m2 eqD (getF 4) (fun _ => some (.int 0)))) (mNotB (mTru (mC (mCons (mC (mCons (getF 7) (mCons (getF 8) (fun _ => some []))) m_hushed) (mCons (getF 7) (fun _ => some []))) m__law_same)))) (mRet (fun _ => some (.bool false))) mNext)
  (mSeq (mIfS (mNotB (mTru (mC (mCons (mC (mCons (getF 7) (mCons (getF 8) (fun _ => some []))) m_parts_of) (mCons (mC (mCons (mList (mLc [19, 20] (mIt (getF 8)) (gT (gsCons (fun d ρ => some (ρ.set 19 (.fr d))) (gsCons (fun d ρ => some (ρ.set 20 (.fr d))) (fun ds ρ => if ds = [] then some ρ else none))) 2) (fun _ => some true) (mSl (getF 7) (fun ρ => ((getF 19) ρ).bind fun d => partD (some d)) (fun ρ => ((m2 addD (getF 19) (getF 20)) ρ).bind fun d => partD (some d))))) (fun _ => some [])) tupD) (fun _ => some []))) m__law_same))) (mRet (fun _ => some (.bool false))) mNext)
  (mSeq (mSet 14 (mList (mLim (mCons (getF 8) (mCons (mTup (fun _ => some [])) (mCons (fun _ => some .none) (mCons (mTup (mCons (mTup (mCons (fun _ => some (.int 0)) (mCons (fun _ => some (.int 0)) (fun _ => some [])))) (fun _ => some []))) (mCons (mTup (mCons (mTup (mCons (fun _ => some (.int 0)) (mCons (fun _ => some (.int 1)) (fun _ => some [])))) (mCons (mTup (mCons (fun _ => some (.int 0)) (mCons (fun _ => some (.int 1)) (fun _ => some [])))) (fun _ => some [])))) (mCons (mTup (mCons (mTup (mCons (fun _ => some (.int 0)) (mCons (fun _ => some (.int 2)) (fun _ => some [])))) (mCons (mTup (mCons (fun _ => some (.int 1)) (mCons (fun _ => some (.int 1)) (fun _ => some [])))) (fun _ => some [])))) (mCons (mTup (mCons (mTup (mCons (fun _ => some (.int 1)) (mCons (fun _ => some (.int 1)) (fun _ => some [])))) (mCons (mTup (mCons (fun _ => some (.int 0)) (mCons (fun _ => some (.int 1)) (fun _ => some [])))) (fun _ => some [])))) (mCons (mTup (mCons (mTup (mCons (mC (mCons (getF 7) (fun _ => some [])) lenD) (mCons (fun _ => some (.int 1)) (fun _ => some [])))) (fun _ => some []))) (mCons (mTup (mCons (mTup (mCons (fun _ => some (.int 0)) (mCons (m2 addD (getF 6) (fun _ => some (.int 1))) (fun _ => some [])))) (fun _ => some []))) (mCons (mTup (mCons (mTup (mCons (fun _ => some (.int 0)) (mCons (m2 addD (mC (mCons (getF 7) (fun _ => some [])) lenD) (fun _ => some (.int 1))) (fun _ => some [])))) (fun _ => some []))) (mCons (mTup (mCons (mTup (mCons (fun _ => some (.int 0)) (mCons (fun _ => some (.bool true)) (fun _ => some [])))) (fun _ => some []))) (fun _ => some [])))))))))))))))
  (mForE (mCE (m2E addD (mE (getF 14)) (mCE (mLcE [17] (mE (mC (mCons (fun _ => some (.int 6)) (fun _ => some [])) fun ds => if ds.length = 1 then rangeD ds else none)) (fun d ρ => some (ρ.set 17 (.fr d))) (fun ρ => some (true, ρ)) (mIO 1 1 (mE (mCons (getF 8) (fun _ => some []))) m__law_spoilt)) fun ds => some (.list ds))) itemsD) (fun d ρ => some (ρ.set 15 (.fr d))) b_law_1))))))))))))
def b_law : Ev → Option Out :=
  (mSeq (mIfS (mBl (m2 neD (mTup (mCons (fun _ => some (.int (8))) (mCons (fun _ => some (.int (32))) (fun _ => some [])))) (mTup (mCons (fun _ => some (.int 8)) (mCons (fun _ => some (.int 32)) (fun _ => some [])))))) (mRet (fun _ => some (.bool false))) mNext)
  (mSeq (mFor (mC (mCons (fun _ => some (.int 6)) (fun _ => some [])) fun ds => if ds.length = 1 then rangeD ds else none) (fun d ρ => some (ρ.set 2 (.fr d))) b_law_5)
  (mRet (fun _ => some (.bool true)))))
theorem ok_law (hb : ∀ x : Str, x ∈ bis → mg x = none) (c_MOST_LONG : ∃ t, mg "MOST_LONG" = some (.int (32) t)) (c_MOST_HANG : ∃ t, mg "MOST_HANG" = some (.int (8) t)) (g__law_box : Got P w K mg base "_law_box" 1 ["script"] (spBox K)) (g__law_spurts : Got P w K mg base "_law_spurts" 1 ["frames", "level", "hang", "longest"] (spP K m__law_spurts)) (g__law_same : Got P w K mg base "_law_same" 13 ["a", "b"] (spP K m__law_same)) (g__law_draw : Got P w K mg base "_law_draw" 2 ["box", "many"] (spIO K RB 1 drawD)) (g_are_spurts : Got P w K mg base "are_spurts" 2 ["value", "many", "longest"] (spP K m_are_spurts)) (g_hushed : Got P w K mg base "hushed" 2 ["frames", "spurts"] (spP K m_hushed)) (g_parts_of : Got P w K mg base "parts_of" 1 ["frames", "spurts"] (spP K m_parts_of)) (g__law_spoilt : Got P w K mg base "_law_spoilt" 15 ["box", "value"] (spIO K RB 1 m__law_spoilt)) (g_spurts_of : Got P w K mg base "spurts_of" 3 ["frames", "level", "hang", "longest"] (spP K m_spurts_of)) (g__law_are_spurts : Got P w K mg base "_law_are_spurts" 2 ["value", "many", "longest"] (spP K m__law_are_spurts)) (g_spurt_at : Got P w K mg base "spurt_at" 1 ["spurts", "index"] (spP K m_spurt_at)) {f : Addr} {fd : FuncData} (F : Fun K "law" "law" s_law f fd) (hm : ∀ (b : Nat) (ns : List Int), ns.length ≤ 63 → ∃ ρ, b_law (startL 21 1 b ns) = some (.rt (.bool true) ρ)) : FnOk P w K mg base CX0 16 f fd ["script"] (spLaw K) := by
  refine law_ok (L := 15) F sc_law (by decide) (fun cdv A outer s H E hr => ?_) hm
  exact pss_cons (ms_box 1 sc_law.nd rfl (by first | exact .inl rfl | exact .inr rfl) g__law_box hr (by omega) (by rfl)) (show PSs _ _ (tS K RB b_law) from
      (ms_seq (ms_if (pb_cmp (op_neD hr.units) om_ne (ft (pf_tup (paf_cons (pf_globI c_MOST_HANG (by rfl)) (paf_cons (pf_globI c_MOST_LONG (by rfl)) paf_nil)))) (ft (pf_tup (paf_cons pf_int (paf_cons pf_int paf_nil)))) rfl) (ms_one (ms_ret pf_bl)) ms_nil)
      (ms_seq (ms_for PassesOwn.never rfl (pi_rng1 (by rfl) (hb "range" (by decide)) (paf_cons pf_int paf_nil)) (pg_nameM sc_law.nd rfl (by first | exact .inl rfl | exact .inr rfl)) (ms_seq (ms_parN (k3 := 4) rfl (pas_cons (e_bin op_addA om_add (ef pf_int) (e_ioG 1 1 g__law_draw hr (by omega) (by rfl) (ea (paf_cons pf_int paf_nil)))) (pas_cons (e_ix ix_seq om_ix (ef (nf (pn_lst (paf_cons pf_int (paf_cons pf_int (paf_cons pf_int (paf_cons pf_int paf_nil))))))) (e_ioG 1 1 g__law_draw hr (by omega) (by rfl) (ea (paf_cons pf_int paf_nil)))) (pas_cons (e_ix ix_seq om_ix (ef (nf (pn_lst (paf_cons pf_int (paf_cons pf_int (paf_cons pf_int (paf_cons pf_int (paf_cons pf_int paf_nil)))))))) (e_ioG 1 1 g__law_draw hr (by omega) (by rfl) (ea (paf_cons pf_int paf_nil)))) (pas_cons (e_ix ix_seq om_ix (ef (nf (pn_lst (paf_cons pf_int (paf_cons pf_int (paf_cons pf_int (paf_cons pf_int (paf_cons pf_int paf_nil)))))))) (e_ioG 1 1 g__law_draw hr (by omega) (by rfl) (ea (paf_cons pf_int paf_nil)))) pas_nil)))) (pgn_cons sc_law.nd (i := 3) rfl (by first | exact .inl rfl | exact .inr rfl) (pgn_cons sc_law.nd (i := 4) rfl (by first | exact .inl rfl | exact .inr rfl) (pgn_cons sc_law.nd (i := 5) rfl (by first | exact .inl rfl | exact .inr rfl) (pgn_cons sc_law.nd (i := 6) rfl (by first | exact .inl rfl | exact .inr rfl) pgn_nil)))))
      (ms_seq (ms_setE sc_law.nd (i := 7) rfl (by first | exact .inl rfl | exact .inr rfl) (e_callTy call_tuple_of cm_tup (by rfl) (hb "tuple" (by decide)) bi_tuple (pae_cons (nfE (ne_lc rfl sc_law.nd (own := [("j", 16)]) (pi_rng1E (by rfl) (hb "range" (by decide)) (pae_cons (e_ioG 1 1 g__law_draw hr (by omega) (by rfl) (ea (paf_cons pf_int paf_nil))) pae_nil)) (blkOk_by (N := ["script", "box", "turn", "size", "level", "hang", "longest", "frames", "due", "here", "number", "place", "index", "loud", "values", "value", "j", "k", "sample", "first", "count"]) (sc := defScope s_law) (own := [("j", 16)]) (by decide +kernel)) (fun _ _ _ _ _ => (pg_nameM sc_law.nd rfl (by first | exact .inl rfl | exact .inr rfl))) (fun _ _ _ _ _ => pts_nilE) (fun _ _ _ _ _ => (e_callTy call_tuple_of cm_tup (by rfl) (hb "tuple" (by decide)) bi_tuple (pae_cons (nfE (ne_lc rfl sc_law.nd (own := [("k", 17)]) (ei (pi_rng1 (by rfl) (hb "range" (by decide)) (paf_cons (pf_var 3) paf_nil))) (blkOk_by (by rfl)) (fun _ _ _ _ _ => (pg_nameM sc_law.nd rfl (by first | exact .inl rfl | exact .inr rfl))) (fun _ _ _ _ _ => pts_nilE) (fun _ _ _ _ _ => (e_if (eb_cmp (op_eqD hr.units) om_eq (e_ioG 1 1 g__law_draw hr (by omega) (by rfl) (ea (paf_cons pf_int paf_nil))) (ef pf_int) rfl) (e_ix ix_seq om_ix (ef (nf (pn_lst (paf_cons pf_int (paf_cons (pf_var 4) (paf_cons (pf_neg (pf_var 4)) (paf_cons (pf_callB (call_min2 rfl) cm_min2 (by rfl) (hb "min" (by decide)) bi_min (pat_cons (ft pf_int) (pat_cons (ft (pf_bin op_addA om_add (ft (pf_var 4)) (ft pf_int))) pat_nil))) (paf_cons (pf_callB (call_max2 rfl) cm_max2 (by rfl) (hb "max" (by decide)) bi_max (pat_cons (ft (pf_neg pf_int)) (pat_cons (ft (pf_bin op_sub om_sub (ft (pf_neg (pf_var 4))) (ft pf_int))) pat_nil))) paf_nil)))))))) (e_ioG 1 1 g__law_draw hr (by omega) (by rfl) (ea (paf_cons pf_int paf_nil)))) (ef pf_int))))) pae_nil))))) pae_nil)))
      (ms_seq (ms_set sc_law.nd (i := 8) rfl (by first | exact .inl rfl | exact .inr rfl) (pf_callG g__law_spurts hr (by omega) (by rfl) (paf_cons (pf_var 7) (paf_cons (pf_var 4) (paf_cons (pf_var 5) (paf_cons (pf_var 6) paf_nil))))))
      (ms_seq (ms_if (PWB.pt (pwb_or (pb_not (pb_tru (ft (pf_callG g__law_same hr (by omega) (by rfl) (paf_cons (pf_callG g_spurts_of hr (by omega) (by rfl) (paf_cons (pf_var 7) (paf_cons (pf_var 4) (paf_cons (pf_var 5) (paf_cons (pf_var 6) paf_nil))))) (paf_cons (pf_var 8) paf_nil)))))) (pwb_or1 (pb_cmp op_isNotA om_isNot (ft (pf_callG g_are_spurts hr (by omega) (by rfl) (paf_cons (pf_var 8) (paf_cons (pf_callB call_len cm_len (by rfl) (hb "len" (by decide)) bi_len (pat_cons (ft (pf_var 7)) pat_nil)) (paf_cons (pf_var 6) paf_nil))))) (ft pf_bl) rfl)))) (ms_one (ms_ret pf_bl)) ms_nil)
      (ms_seq (ms_dnew sc_law.nd (i := 9) rfl (by first | exact .inl rfl | exact .inr rfl))
      (ms_seq (ms_for PassesOwn.never rfl (pi_rng1 (by rfl) (hb "range" (by decide)) (paf_cons (pf_callB call_len cm_len (by rfl) (hb "len" (by decide)) bi_len (pat_cons (ft (pf_var 8)) pat_nil)) paf_nil)) (pg_nameM sc_law.nd rfl (by first | exact .inl rfl | exact .inr rfl)) (ms_one (ms_for PassesOwn.never rfl (pi_rng1 (by rfl) (hb "range" (by decide)) (paf_cons (pf_ix ix_seq om_ix (ft (pf_ix ix_seq om_ix (ft (pf_var 8)) (ft (pf_var 10)))) (ft pf_int)) paf_nil)) (pg_nameM sc_law.nd rfl (by first | exact .inl rfl | exact .inr rfl)) (ms_one (ms_dput 9 (units1 hr) (pf_tup (paf_cons (pf_var 10) (paf_cons (pf_var 11) paf_nil))) (pf_bin op_addA om_add (ft (pf_ix ix_seq om_ix (ft (pf_ix ix_seq om_ix (ft (pf_var 8)) (ft (pf_var 10)))) (ft pf_int))) (ft (pf_var 11))))))))
      (ms_seq (ms_for PassesOwn.never rfl (pi_rng1 (by rfl) (hb "range" (by decide)) (paf_cons (pf_callB call_len cm_len (by rfl) (hb "len" (by decide)) bi_len (pat_cons (ft (pf_var 7)) pat_nil)) paf_nil)) (pg_nameM sc_law.nd rfl (by first | exact .inl rfl | exact .inr rfl)) (ms_seq (ms_set sc_law.nd (i := 13) rfl (by first | exact .inl rfl | exact .inr rfl) (pf_callB (cr_anyD rfl) cm_any (by rfl) (hb "any" (by decide)) bi_any (pat_cons (ft (nf (pn_lc rfl sc_law.nd (own := [("sample", 18)]) (pi_seq (pf_ix ix_seq om_ix (ft (pf_var 7)) (ft (pf_var 12)))) (blkOk_by (N := ["script", "box", "turn", "size", "level", "hang", "longest", "frames", "due", "here", "number", "place", "index", "loud", "values", "value", "j", "k", "sample", "first", "count"]) (sc := defScope s_law) (own := [("sample", 18)]) (by decide +kernel)) (fun _ _ _ _ _ => (pg_nameM sc_law.nd rfl (by first | exact .inl rfl | exact .inr rfl))) (fun _ _ _ _ _ => pts_nilM) (fun _ _ _ _ _ => (pf_cmp op_gt om_gt (ft (pf_callB call_abs cm_abs (by rfl) (hb "abs" (by decide)) bi_abs (pat_cons (ft (pf_var 18)) pat_nil))) (ft (pf_var 4)) rfl))))) pat_nil)))
      (ms_one (ms_if (PWB.pt (pwb_or (pb_not (pb_tru (ft (pf_callG g__law_same hr (by omega) (by rfl) (paf_cons (pf_callG g_spurt_at hr (by omega) (by rfl) (paf_cons (pf_var 8) (paf_cons (pf_var 12) paf_nil))) (paf_cons (pf_dget 9 (units1 hr) (pf_var 12)) paf_nil)))))) (pwb_or1 (PWB.pt (pwb_and (pb_tru (ft (pf_var 13))) (pwb_and1 (pb_dnotin 9 (units1 hr) (pf_var 12)))))))) (ms_one (ms_ret pf_bl)) ms_nil))))
      (ms_seq (ms_if (pb_not (pb_tru (ft (pf_callG g__law_same hr (by omega) (by rfl) (paf_cons (pf_callG g_hushed hr (by omega) (by rfl) (paf_cons (pf_var 7) (paf_cons (pf_var 8) paf_nil))) (paf_cons (pf_callTy call_tuple_of cm_tup (by rfl) (hb "tuple" (by decide)) bi_tuple (pat_cons (ft (nf (pn_lc rfl sc_law.nd (own := [("k", 17)]) (pi_rng1 (by rfl) (hb "range" (by decide)) (paf_cons (pf_callB call_len cm_len (by rfl) (hb "len" (by decide)) bi_len (pat_cons (ft (pf_var 7)) pat_nil)) paf_nil)) (blkOk_by (N := ["script", "box", "turn", "size", "level", "hang", "longest", "frames", "due", "here", "number", "place", "index", "loud", "values", "value", "j", "k", "sample", "first", "count"]) (sc := defScope s_law) (own := [("k", 17)]) (by decide +kernel)) (fun _ _ _ _ _ => (pg_nameM sc_law.nd rfl (by first | exact .inl rfl | exact .inr rfl))) (fun _ _ _ _ _ => pts_nilM) (fun _ _ _ _ _ => (pf_if (pb_din 9 (units1 hr) (pf_var 17)) (pf_ix ix_seq om_ix (ft (pf_var 7)) (ft (pf_var 17))) (pf_bin op_mulA om_mul (ft (pf_tup (paf_cons pf_int paf_nil))) (ft (pf_var 3)))))))) pat_nil)) paf_nil)))))) (ms_one (ms_ret pf_bl)) ms_nil)
      (ms_seq (ms_if (PWB.pt (pwb_and (pb_cmp (op_eqD hr.units) om_eq (ft (pf_var 4)) (ft pf_int) rfl) (pwb_and1 (pb_not (pb_tru (ft (pf_callG g__law_same hr (by omega) (by rfl) (paf_cons (pf_callG g_hushed hr (by omega) (by rfl) (paf_cons (pf_var 7) (paf_cons (pf_var 8) paf_nil))) (paf_cons (pf_var 7) paf_nil))))))))) (ms_one (ms_ret pf_bl)) ms_nil)
      (ms_seq (ms_if (pb_not (pb_tru (ft (pf_callG g__law_same hr (by omega) (by rfl) (paf_cons (pf_callG g_parts_of hr (by omega) (by rfl) (paf_cons (pf_var 7) (paf_cons (pf_var 8) paf_nil))) (paf_cons (pf_callTy call_tuple_of cm_tup (by rfl) (hb "tuple" (by decide)) bi_tuple (pat_cons (ft (nf (pn_lc rfl sc_law.nd (own := [("first", 19), ("count", 20)]) (pi_seq (pf_var 8)) (blkOk_by (N := ["script", "box", "turn", "size", "level", "hang", "longest", "frames", "due", "here", "number", "place", "index", "loud", "values", "value", "j", "k", "sample", "first", "count"]) (sc := defScope s_law) (own := [("first", 19), ("count", 20)]) (by decide +kernel)) (fun _ _ _ _ _ => (pg_tupM rfl (pgs_consM (pg_nameM sc_law.nd rfl (by first | exact .inl rfl | exact .inr rfl)) (pgs_consM (pg_nameM sc_law.nd rfl (by first | exact .inl rfl | exact .inr rfl)) pgs_nilM)))) (fun _ _ _ _ _ => pts_nilM) (fun _ _ _ _ _ => (pf_slice (ft (pf_var 7)) (po_someM (pf_var 19)) (po_someM (pf_bin op_addA om_add (ft (pf_var 19)) (ft (pf_var 20))))))))) pat_nil)) paf_nil)))))) (ms_one (ms_ret pf_bl)) ms_nil)
      (ms_seq (ms_set sc_law.nd (i := 14) rfl (by first | exact .inl rfl | exact .inr rfl) (nf (pn_lst (paf_cons (pf_var 8) (paf_cons (pf_tup paf_nil) (paf_cons pf_non (paf_cons (pf_tup (paf_cons (pf_tup (paf_cons pf_int (paf_cons pf_int paf_nil))) paf_nil)) (paf_cons (pf_tup (paf_cons (pf_tup (paf_cons pf_int (paf_cons pf_int paf_nil))) (paf_cons (pf_tup (paf_cons pf_int (paf_cons pf_int paf_nil))) paf_nil))) (paf_cons (pf_tup (paf_cons (pf_tup (paf_cons pf_int (paf_cons pf_int paf_nil))) (paf_cons (pf_tup (paf_cons pf_int (paf_cons pf_int paf_nil))) paf_nil))) (paf_cons (pf_tup (paf_cons (pf_tup (paf_cons pf_int (paf_cons pf_int paf_nil))) (paf_cons (pf_tup (paf_cons pf_int (paf_cons pf_int paf_nil))) paf_nil))) (paf_cons (pf_tup (paf_cons (pf_tup (paf_cons (pf_callB call_len cm_len (by rfl) (hb "len" (by decide)) bi_len (pat_cons (ft (pf_var 7)) pat_nil)) (paf_cons pf_int paf_nil))) paf_nil)) (paf_cons (pf_tup (paf_cons (pf_tup (paf_cons pf_int (paf_cons (pf_bin op_addA om_add (ft (pf_var 6)) (ft pf_int)) paf_nil))) paf_nil)) (paf_cons (pf_tup (paf_cons (pf_tup (paf_cons pf_int (paf_cons (pf_bin op_addA om_add (ft (pf_callB call_len cm_len (by rfl) (hb "len" (by decide)) bi_len (pat_cons (ft (pf_var 7)) pat_nil))) (ft pf_int)) paf_nil))) paf_nil)) (paf_cons (pf_tup (paf_cons (pf_tup (paf_cons pf_int (paf_cons pf_bl paf_nil))) paf_nil)) paf_nil))))))))))))))
      (ms_one (ms_forE PassesOwn.never rfl (pi_seqE (e_bin op_addA om_add (ef (pf_var 14)) (nfE (ne_lc rfl sc_law.nd (own := [("k", 17)]) (ei (pi_rng1 (by rfl) (hb "range" (by decide)) (paf_cons pf_int paf_nil))) (blkOk_by (N := ["script", "box", "turn", "size", "level", "hang", "longest", "frames", "due", "here", "number", "place", "index", "loud", "values", "value", "j", "k", "sample", "first", "count"]) (sc := defScope s_law) (own := [("k", 17)]) (by decide +kernel)) (fun _ _ _ _ _ => (pg_nameM sc_law.nd rfl (by first | exact .inl rfl | exact .inr rfl))) (fun _ _ _ _ _ => pts_nilE) (fun _ _ _ _ _ => (e_ioG 1 1 g__law_spoilt hr (by omega) (by rfl) (ea (paf_cons (pf_var 8) paf_nil)))))))) (pg_nameM sc_law.nd rfl (by first | exact .inl rfl | exact .inr rfl)) (ms_one (ms_if (pb_not (pb_tru (ft (pf_callG g__law_same hr (by omega) (by rfl) (paf_cons (pf_callG g_are_spurts hr (by omega) (by rfl) (paf_cons (pf_var 15) (paf_cons (pf_callB call_len cm_len (by rfl) (hb "len" (by decide)) bi_len (pat_cons (ft (pf_var 7)) pat_nil)) (paf_cons (pf_var 6) paf_nil)))) (paf_cons (pf_callG g__law_are_spurts hr (by omega) (by rfl) (paf_cons (pf_var 15) (paf_cons (pf_callB call_len cm_len (by rfl) (hb "len" (by decide)) bi_len (pat_cons (ft (pf_var 7)) pat_nil)) (paf_cons (pf_var 6) paf_nil)))) paf_nil)))))) (ms_one (ms_ret pf_bl)) ms_nil))))))))))))))))
      (ms_one (ms_ret pf_bl)))))
end
/-! ### what the top has written -/
theorem all_mk {l : PySem.W.OpenLaw} {w : World} {K : PySem.W.Frag} {h : Heap} {mg : Str → Option Value} {fa f0 f1 f2 f3 f4 f5 f6 f7 f8 f9 f10 f11 f12 f13 f14 f15 f16 f17 : Addr} (X : K.In h) (G : h.Ns mainGlobals mg) (hfa : mg "law" = some (.ref fa)) (hm : ∀ (b : Nat) (ns : List Int), ns.length ≤ 63 → ∃ ρ, b_law (startL 21 1 b ns) = some (.rt (.bool true) ρ))
    {od0 an0 od1 an1 od2 an2 od3 an3 od4 an4 od5 an5 od6 an6 od7 an7 od8 an8 od9 an9 od10 an10 od11 an11 od12 an12 od13 an13 od14 an14 od15 an15 od16 an16 od17 an17 : Option Addr} {sl0 sl1 sl2 sl3 sl4 sl5 sl6 sl7 sl8 sl9 sl10 sl11 sl12 sl13 sl14 sl15 sl16 sl17 : Array (Option Value)} {oc0 kV0 dc0 pm0 cd0 ct0 oc1 kV1 dc1 pm1 cd1 ct1 oc2 kV2 dc2 pm2 cd2 ct2 oc3 kV3 dc3 pm3 cd3 ct3 oc4 kV4 dc4 pm4 cd4 ct4 oc5 kV5 dc5 pm5 cd5 ct5 oc6 kV6 dc6 pm6 cd6 ct6 oc7 kV7 dc7 pm7 cd7 ct7 oc8 kV8 dc8 pm8 cd8 ct8 oc9 kV9 dc9 pm9 cd9 ct9 oc10 kV10 dc10 pm10 cd10 ct10 oc11 kV11 dc11 pm11 cd11 ct11 oc12 kV12 dc12 pm12 cd12 ct12 oc13 kV13 dc13 pm13 cd13 ct13 oc14 kV14 dc14 pm14 cd14 ct14 oc15 kV15 dc15 pm15 cd15 ct15 oc16 kV16 dc16 pm16 cd16 ct16 oc17 kV17 dc17 pm17 cd17 ct17 : Value}
    (a0 : PySem.W.nsIn K mainGlobals "is_number" = some (some (.ref f0))) (l0 : K.lookup f0 = some ⟨oc0, od0, .func (PySem.W.fnOf "is_number" "is_number" (defArgs s_is_number) (defBody s_is_number) (defScope s_is_number) .none kV0 dc0 pm0 an0 cd0 ct0), sl0⟩) (c0 : PySem.W.codeIn K cd0 "is_number" = true) (k0 : PySem.W.keepIn K (.ref f0) = true)
    (a1 : PySem.W.nsIn K mainGlobals "is_row" = some (some (.ref f1))) (l1 : K.lookup f1 = some ⟨oc1, od1, .func (PySem.W.fnOf "is_row" "is_row" (defArgs s_is_row) (defBody s_is_row) (defScope s_is_row) .none kV1 dc1 pm1 an1 cd1 ct1), sl1⟩) (c1 : PySem.W.codeIn K cd1 "is_row" = true) (k1 : PySem.W.keepIn K (.ref f1) = true)
    (a2 : PySem.W.nsIn K mainGlobals "loudest" = some (some (.ref f2))) (l2 : K.lookup f2 = some ⟨oc2, od2, .func (PySem.W.fnOf "loudest" "loudest" (defArgs s_loudest) (defBody s_loudest) (defScope s_loudest) .none kV2 dc2 pm2 an2 cd2 ct2), sl2⟩) (c2 : PySem.W.codeIn K cd2 "loudest" = true) (k2 : PySem.W.keepIn K (.ref f2) = true)
    (a3 : PySem.W.nsIn K mainGlobals "spurt_at" = some (some (.ref f3))) (l3 : K.lookup f3 = some ⟨oc3, od3, .func (PySem.W.fnOf "spurt_at" "spurt_at" (defArgs s_spurt_at) (defBody s_spurt_at) (defScope s_spurt_at) .none kV3 dc3 pm3 an3 cd3 ct3), sl3⟩) (c3 : PySem.W.codeIn K cd3 "spurt_at" = true) (k3 : PySem.W.keepIn K (.ref f3) = true)
    (a4 : PySem.W.nsIn K mainGlobals "parts_of" = some (some (.ref f4))) (l4 : K.lookup f4 = some ⟨oc4, od4, .func (PySem.W.fnOf "parts_of" "parts_of" (defArgs s_parts_of) (defBody s_parts_of) (defScope s_parts_of) .none kV4 dc4 pm4 an4 cd4 ct4), sl4⟩) (c4 : PySem.W.codeIn K cd4 "parts_of" = true) (k4 : PySem.W.keepIn K (.ref f4) = true)
    (a5 : PySem.W.nsIn K mainGlobals "_law_box" = some (some (.ref f5))) (l5 : K.lookup f5 = some ⟨oc5, od5, .func (PySem.W.fnOf "_law_box" "_law_box" (defArgs s__law_box) (defBody s__law_box) (defScope s__law_box) .none kV5 dc5 pm5 an5 cd5 ct5), sl5⟩) (c5 : PySem.W.codeIn K cd5 "_law_box" = true) (k5 : PySem.W.keepIn K (.ref f5) = true)
    (a6 : PySem.W.nsIn K mainGlobals "_law_load" = some (some (.ref f6))) (l6 : K.lookup f6 = some ⟨oc6, od6, .func (PySem.W.fnOf "_law_load" "_law_load" (defArgs s__law_load) (defBody s__law_load) (defScope s__law_load) .none kV6 dc6 pm6 an6 cd6 ct6), sl6⟩) (c6 : PySem.W.codeIn K cd6 "_law_load" = true) (k6 : PySem.W.keepIn K (.ref f6) = true)
    (a7 : PySem.W.nsIn K mainGlobals "_law_is_number" = some (some (.ref f7))) (l7 : K.lookup f7 = some ⟨oc7, od7, .func (PySem.W.fnOf "_law_is_number" "_law_is_number" (defArgs s__law_is_number) (defBody s__law_is_number) (defScope s__law_is_number) .none kV7 dc7 pm7 an7 cd7 ct7), sl7⟩) (c7 : PySem.W.codeIn K cd7 "_law_is_number" = true) (k7 : PySem.W.keepIn K (.ref f7) = true)
    (a8 : PySem.W.nsIn K mainGlobals "_law_spurts" = some (some (.ref f8))) (l8 : K.lookup f8 = some ⟨oc8, od8, .func (PySem.W.fnOf "_law_spurts" "_law_spurts" (defArgs s__law_spurts) (defBody s__law_spurts) (defScope s__law_spurts) .none kV8 dc8 pm8 an8 cd8 ct8), sl8⟩) (c8 : PySem.W.codeIn K cd8 "_law_spurts" = true) (k8 : PySem.W.keepIn K (.ref f8) = true)
    (a9 : PySem.W.nsIn K mainGlobals "is_quiet" = some (some (.ref f9))) (l9 : K.lookup f9 = some ⟨oc9, od9, .func (PySem.W.fnOf "is_quiet" "is_quiet" (defArgs s_is_quiet) (defBody s_is_quiet) (defScope s_is_quiet) .none kV9 dc9 pm9 an9 cd9 ct9), sl9⟩) (c9 : PySem.W.codeIn K cd9 "is_quiet" = true) (k9 : PySem.W.keepIn K (.ref f9) = true)
    (a10 : PySem.W.nsIn K mainGlobals "are_spurts" = some (some (.ref f10))) (l10 : K.lookup f10 = some ⟨oc10, od10, .func (PySem.W.fnOf "are_spurts" "are_spurts" (defArgs s_are_spurts) (defBody s_are_spurts) (defScope s_are_spurts) .none kV10 dc10 pm10 an10 cd10 ct10), sl10⟩) (c10 : PySem.W.codeIn K cd10 "are_spurts" = true) (k10 : PySem.W.keepIn K (.ref f10) = true)
    (a11 : PySem.W.nsIn K mainGlobals "hushed" = some (some (.ref f11))) (l11 : K.lookup f11 = some ⟨oc11, od11, .func (PySem.W.fnOf "hushed" "hushed" (defArgs s_hushed) (defBody s_hushed) (defScope s_hushed) .none kV11 dc11 pm11 an11 cd11 ct11), sl11⟩) (c11 : PySem.W.codeIn K cd11 "hushed" = true) (k11 : PySem.W.keepIn K (.ref f11) = true)
    (a12 : PySem.W.nsIn K mainGlobals "_law_draw" = some (some (.ref f12))) (l12 : K.lookup f12 = some ⟨oc12, od12, .func (PySem.W.fnOf "_law_draw" "_law_draw" (defArgs s__law_draw) (defBody s__law_draw) (defScope s__law_draw) .none kV12 dc12 pm12 an12 cd12 ct12), sl12⟩) (c12 : PySem.W.codeIn K cd12 "_law_draw" = true) (k12 : PySem.W.keepIn K (.ref f12) = true)
    (a13 : PySem.W.nsIn K mainGlobals "_law_are_spurts" = some (some (.ref f13))) (l13 : K.lookup f13 = some ⟨oc13, od13, .func (PySem.W.fnOf "_law_are_spurts" "_law_are_spurts" (defArgs s__law_are_spurts) (defBody s__law_are_spurts) (defScope s__law_are_spurts) .none kV13 dc13 pm13 an13 cd13 ct13), sl13⟩) (c13 : PySem.W.codeIn K cd13 "_law_are_spurts" = true) (k13 : PySem.W.keepIn K (.ref f13) = true)
    (a14 : PySem.W.nsIn K mainGlobals "spurts_of" = some (some (.ref f14))) (l14 : K.lookup f14 = some ⟨oc14, od14, .func (PySem.W.fnOf "spurts_of" "spurts_of" (defArgs s_spurts_of) (defBody s_spurts_of) (defScope s_spurts_of) .none kV14 dc14 pm14 an14 cd14 ct14), sl14⟩) (c14 : PySem.W.codeIn K cd14 "spurts_of" = true) (k14 : PySem.W.keepIn K (.ref f14) = true)
    (a15 : PySem.W.nsIn K mainGlobals "_law_same" = some (some (.ref f15))) (l15 : K.lookup f15 = some ⟨oc15, od15, .func (PySem.W.fnOf "_law_same" "_law_same" (defArgs s__law_same) (defBody s__law_same) (defScope s__law_same) .none kV15 dc15 pm15 an15 cd15 ct15), sl15⟩) (c15 : PySem.W.codeIn K cd15 "_law_same" = true) (k15 : PySem.W.keepIn K (.ref f15) = true)
    (a16 : PySem.W.nsIn K mainGlobals "_law_spoilt" = some (some (.ref f16))) (l16 : K.lookup f16 = some ⟨oc16, od16, .func (PySem.W.fnOf "_law_spoilt" "_law_spoilt" (defArgs s__law_spoilt) (defBody s__law_spoilt) (defScope s__law_spoilt) .none kV16 dc16 pm16 an16 cd16 ct16), sl16⟩) (c16 : PySem.W.codeIn K cd16 "_law_spoilt" = true) (k16 : PySem.W.keepIn K (.ref f16) = true)
    (a17 : PySem.W.nsIn K mainGlobals "law" = some (some (.ref f17))) (l17 : K.lookup f17 = some ⟨oc17, od17, .func (PySem.W.fnOf "law" "law" (defArgs s_law) (defBody s_law) (defScope s_law) .none kV17 dc17 pm17 an17 cd17 ct17), sl17⟩) (c17 : PySem.W.codeIn K cd17 "law" = true) (k17 : PySem.W.keepIn K (.ref f17) = true)
    {t0 t1 : Tok}
    (y0 : PySem.W.nsIn K mainGlobals "MOST_HANG" = some (some (.int (8) t0)))
    (y1 : PySem.W.nsIn K mainGlobals "MOST_LONG" = some (some (.int (32) t1)))
    (z0 : PySem.W.nsIn K mainGlobals "abs" = some none)
    (z1 : PySem.W.nsIn K mainGlobals "all" = some none)
    (z2 : PySem.W.nsIn K mainGlobals "any" = some none)
    (z3 : PySem.W.nsIn K mainGlobals "bool" = some none)
    (z4 : PySem.W.nsIn K mainGlobals "enumerate" = some none)
    (z5 : PySem.W.nsIn K mainGlobals "int" = some none)
    (z6 : PySem.W.nsIn K mainGlobals "isinstance" = some none)
    (z7 : PySem.W.nsIn K mainGlobals "len" = some none)
    (z8 : PySem.W.nsIn K mainGlobals "list" = some none)
    (z9 : PySem.W.nsIn K mainGlobals "max" = some none)
    (z10 : PySem.W.nsIn K mainGlobals "min" = some none)
    (z11 : PySem.W.nsIn K mainGlobals "range" = some none)
    (z12 : PySem.W.nsIn K mainGlobals "str" = some none)
    (z13 : PySem.W.nsIn K mainGlobals "tuple" = some none)
    : ∃ fd : FuncData, (∀ (s : Shared) (v : Value), BindsTo s fd ⟨[v], []⟩ [("script", v)]) ∧ ∀ base : Heap, K.In base → base.Ns mainGlobals mg → FnOk l.prog w K mg base CX0 16 fa fd ["script"] (spLaw K) := by
  have e := hfa.symm.trans (PySem.W.mg_of X G a17)
  cases e
  have hb : ∀ x : Str, x ∈ bis → mg x = none := by
    intro x hx
    simp only [bis, List.mem_cons, List.not_mem_nil, or_false] at hx
    rcases hx with rfl | rfl | rfl | rfl | rfl | rfl | rfl | rfl | rfl | rfl | rfl | rfl | rfl | rfl
    · exact PySem.W.mg_none_of X G z0
    · exact PySem.W.mg_none_of X G z1
    · exact PySem.W.mg_none_of X G z2
    · exact PySem.W.mg_none_of X G z3
    · exact PySem.W.mg_none_of X G z4
    · exact PySem.W.mg_none_of X G z5
    · exact PySem.W.mg_none_of X G z6
    · exact PySem.W.mg_none_of X G z7
    · exact PySem.W.mg_none_of X G z8
    · exact PySem.W.mg_none_of X G z9
    · exact PySem.W.mg_none_of X G z10
    · exact PySem.W.mg_none_of X G z11
    · exact PySem.W.mg_none_of X G z12
    · exact PySem.W.mg_none_of X G z13
  refine ⟨PySem.W.fnOf "law" "law" (defArgs s_law) (defBody s_law) (defScope s_law) .none kV17 dc17 pm17 an17 cd17 ct17, fun s v => .of_eq rfl, fun base _ _ => ?_⟩
  have c_MOST_HANG : ∃ t, mg "MOST_HANG" = some (.int (8) t) := ⟨t0, PySem.W.mg_of X G y0⟩
  have c_MOST_LONG : ∃ t, mg "MOST_LONG" = some (.int (32) t) := ⟨t1, PySem.W.mg_of X G y1⟩
  have F0 := fun_mk (st := s_is_number) l0 c0 k0
  have b0 := F0.binds (ps := ["value", "least", "most"]) fun _ _ _ _ _ _ us hl => match us, hl with | [_, _, _], _ => rfl
  have F1 := fun_mk (st := s_is_row) l1 c1 k1
  have b1 := F1.binds (ps := ["value", "least", "most"]) fun _ _ _ _ _ _ us hl => match us, hl with | [_, _, _], _ => rfl
  have F2 := fun_mk (st := s_loudest) l2 c2 k2
  have b2 := F2.binds (ps := ["frame"]) fun _ _ _ _ _ _ us hl => match us, hl with | [_], _ => rfl
  have F3 := fun_mk (st := s_spurt_at) l3 c3 k3
  have b3 := F3.binds (ps := ["spurts", "index"]) fun _ _ _ _ _ _ us hl => match us, hl with | [_, _], _ => rfl
  have F4 := fun_mk (st := s_parts_of) l4 c4 k4
  have b4 := F4.binds (ps := ["frames", "spurts"]) fun _ _ _ _ _ _ us hl => match us, hl with | [_, _], _ => rfl
  have F5 := fun_mk (st := s__law_box) l5 c5 k5
  have b5 := F5.binds (ps := ["script"]) fun _ _ _ _ _ _ us hl => match us, hl with | [_], _ => rfl
  have F6 := fun_mk (st := s__law_load) l6 c6 k6
  have b6 := F6.binds (ps := ["box"]) fun _ _ _ _ _ _ us hl => match us, hl with | [_], _ => rfl
  have F7 := fun_mk (st := s__law_is_number) l7 c7 k7
  have b7 := F7.binds (ps := ["value", "low", "high"]) fun _ _ _ _ _ _ us hl => match us, hl with | [_, _, _], _ => rfl
  have F8 := fun_mk (st := s__law_spurts) l8 c8 k8
  have b8 := F8.binds (ps := ["frames", "level", "hang", "longest"]) fun _ _ _ _ _ _ us hl => match us, hl with | [_, _, _, _], _ => rfl
  have F9 := fun_mk (st := s_is_quiet) l9 c9 k9
  have b9 := F9.binds (ps := ["frame", "level"]) fun _ _ _ _ _ _ us hl => match us, hl with | [_, _], _ => rfl
  have F10 := fun_mk (st := s_are_spurts) l10 c10 k10
  have b10 := F10.binds (ps := ["value", "many", "longest"]) fun _ _ _ _ _ _ us hl => match us, hl with | [_, _, _], _ => rfl
  have F11 := fun_mk (st := s_hushed) l11 c11 k11
  have b11 := F11.binds (ps := ["frames", "spurts"]) fun _ _ _ _ _ _ us hl => match us, hl with | [_, _], _ => rfl
  have F12 := fun_mk (st := s__law_draw) l12 c12 k12
  have b12 := F12.binds (ps := ["box", "many"]) fun _ _ _ _ _ _ us hl => match us, hl with | [_, _], _ => rfl
  have F13 := fun_mk (st := s__law_are_spurts) l13 c13 k13
  have b13 := F13.binds (ps := ["value", "many", "longest"]) fun _ _ _ _ _ _ us hl => match us, hl with | [_, _, _], _ => rfl
  have F14 := fun_mk (st := s_spurts_of) l14 c14 k14
  have b14 := F14.binds (ps := ["frames", "level", "hang", "longest"]) fun _ _ _ _ _ _ us hl => match us, hl with | [_, _, _, _], _ => rfl
  have F15 := fun_mk (st := s__law_same) l15 c15 k15
  have b15 := F15.binds (ps := ["a", "b"]) fun _ _ _ _ _ _ us hl => match us, hl with | [_, _], _ => rfl
  have F16 := fun_mk (st := s__law_spoilt) l16 c16 k16
  have b16 := F16.binds (ps := ["box", "value"]) fun _ _ _ _ _ _ us hl => match us, hl with | [_, _], _ => rfl
  have g_is_number : Got l.prog w K mg base "is_number" 1 ["value", "least", "most"] (spP K m_is_number) := ok_is_number hb   F0 (PySem.W.mg_of X G a0) b0
  have g_is_row : Got l.prog w K mg base "is_row" 1 ["value", "least", "most"] (spP K m_is_row) := ok_is_row hb   F1 (PySem.W.mg_of X G a1) b1
  have g_loudest : Got l.prog w K mg base "loudest" 1 ["frame"] (spP K m_loudest) := ok_loudest hb   F2 (PySem.W.mg_of X G a2) b2
  have g_spurt_at : Got l.prog w K mg base "spurt_at" 1 ["spurts", "index"] (spP K m_spurt_at) := ok_spurt_at hb   F3 (PySem.W.mg_of X G a3) b3
  have g_parts_of : Got l.prog w K mg base "parts_of" 1 ["frames", "spurts"] (spP K m_parts_of) := ok_parts_of hb   F4 (PySem.W.mg_of X G a4) b4
  have g__law_box : Got l.prog w K mg base "_law_box" 1 ["script"] (spBox K) := ⟨_, _, PySem.W.mg_of X G a5, F5.kp, b5, fun k => ok_law_box F5 (hb "list" (by decide)) (hb "len" (by decide))⟩
  have g__law_is_number : Got l.prog w K mg base "_law_is_number" 1 ["value", "low", "high"] (spP K m__law_is_number) := ok__law_is_number hb   F7 (PySem.W.mg_of X G a7) b7
  have g__law_spurts : Got l.prog w K mg base "_law_spurts" 1 ["frames", "level", "hang", "longest"] (spP K m__law_spurts) := ok__law_spurts hb   F8 (PySem.W.mg_of X G a8) b8
  have g_is_quiet : Got l.prog w K mg base "is_quiet" 2 ["frame", "level"] (spP K m_is_quiet) := ok_is_quiet hb  g_loudest F9 (PySem.W.mg_of X G a9) b9
  have g_are_spurts : Got l.prog w K mg base "are_spurts" 2 ["value", "many", "longest"] (spP K m_are_spurts) := ok_are_spurts hb  g_is_number g_is_row F10 (PySem.W.mg_of X G a10) b10
  have g_hushed : Got l.prog w K mg base "hushed" 2 ["frames", "spurts"] (spP K m_hushed) := ok_hushed hb  g_spurt_at F11 (PySem.W.mg_of X G a11) b11
  have g__law_draw : Got l.prog w K mg base "_law_draw" 2 ["box", "many"] (spIO K RB 1 drawD) := ⟨_, _, PySem.W.mg_of X G a12, F12.kp, b12, fun k => ok_law_draw F12 F6 b6 (PySem.W.mg_of X G a6) (hb "int" (by decide)) (hb "len" (by decide))⟩
  have g__law_are_spurts : Got l.prog w K mg base "_law_are_spurts" 2 ["value", "many", "longest"] (spP K m__law_are_spurts) := ok__law_are_spurts hb  g__law_is_number F13 (PySem.W.mg_of X G a13) b13
  have g_spurts_of : Got l.prog w K mg base "spurts_of" 3 ["frames", "level", "hang", "longest"] (spP K m_spurts_of) := ok_spurts_of hb  g_is_quiet F14 (PySem.W.mg_of X G a14) b14
  have g__law_same : Got l.prog w K mg base "_law_same" 13 ["a", "b"] (spP K m__law_same) := ok__law_same hb   F15 (PySem.W.mg_of X G a15) b15
  have g__law_spoilt : Got l.prog w K mg base "_law_spoilt" 15 ["box", "value"] (spIO K RB 1 m__law_spoilt) := ok__law_spoilt hb  g__law_draw F16 (PySem.W.mg_of X G a16) b16
  exact ok_law hb c_MOST_LONG c_MOST_HANG g__law_box g__law_spurts g__law_same g__law_draw g_are_spurts g_hushed g_parts_of g__law_spoilt g_spurts_of g__law_are_spurts g_spurt_at (fun_mk (st := s_law) l17 c17 k17) hm
end Mi

end
section
set_option maxHeartbeats 4000000
open PySem PySem.Spec PyProof.Rows
namespace Mi
open L2
/-! ### what is laid by itself is the same -/
def okD : Nat → D → Prop
  | 0, _ => False
  | n + 1, .tuple xs => xs.length ≤ LL ∧ ∀ x ∈ xs, okD n x
  | n + 1, .list xs => xs.length ≤ LL ∧ ∀ x ∈ xs, okD n x
  | _ + 1, .str x => PyData.strOk x = true
  | _ + 1, .dict _ => False
  | _ + 1, _ => True
theorem all_true {xs : List D} (h : ∀ x ∈ xs, x = .bool true) : allD [.list xs] = some (.bool true) := by
  have h1 : PyData.canLayAll0 xs = true := by
    induction xs with
    | nil => rfl
    | cons x xs ih =>
      rw [h x List.mem_cons_self]
      show (true && PyData.canLayAll0 xs) = true
      rw [ih fun y hy => h y (List.mem_cons_of_mem _ hy)]; rfl
  have h2 : sizesOk xs = true := by
    unfold sizesOk
    rw [List.all_eq_true]
    intro x hx
    rw [h x hx]
  have h3 : xs.all PyData.truthy = true := by
    rw [List.all_eq_true]
    intro x hx
    rw [h x hx]; rfl
  show (if plainOk xs = true then some (PyData.bool (xs.all PyData.truthy)) else none) = _
  rw [if_pos (by unfold plainOk; rw [h1, h2]; rfl), h3]
theorem eqD_str {x : Str} (h : PyData.strOk x = true) : eqD (.str x) (.str x) = some (.bool true) := by
  have hc : (PyData.str x).canLay0 = true := by simpa [PyData.canLay0] using h
  have hs : SeqAt.shaped (.str x) = true := by
    unfold SeqAt.shaped
    rw [hc]; rfl
  unfold eqD
  rw [if_pos (by rw [hs]; rfl), SeqAt.eqv_refl _ hc]
theorem eqD_lit {a b : Str} {c : Bool} (h : (PyData.strOk a && (PyData.strOk b && ((a == b) == c))) = true) : eqD (.str a) (.str b) = some (.bool c) := by
  simp only [Bool.and_eq_true, beq_iff_eq] at h
  have ha : (PyData.str a).canLay0 = true := by simpa [PyData.canLay0] using h.1
  have hb : (PyData.str b).canLay0 = true := by simpa [PyData.canLay0] using h.2.1
  have hs : SeqAt.shaped (.str a) = true := by
    unfold SeqAt.shaped
    rw [ha]; rfl
  have ht : SeqAt.shaped (.str b) = true := by
    unfold SeqAt.shaped
    rw [hb]; rfl
  unfold eqD
  rw [if_pos (by rw [hs, ht]; rfl)]
  show some (PyData.bool (a == b)) = _
  rw [h.2.2]
theorem same_step (n : Nat) (g : List D → Option D) (hg : ∀ d, okD n d → g [d, d] = some (.bool true)) (d : D) (hd : okD (n + 1) d) : wO (mFun 3 2 (b__law_same g) [d, d]) fun v => v = .bool true := by
  have seq : ∀ (xs : List D), xs.length ≤ LL → (∀ x ∈ xs, okD n x) → ∀ (e : D), (∀ k : Nat, k < xs.length → ixD e (.int k) = xs[k]?) →
      wO (lcGo [2] (fun d ρ => some (ρ.set 2 (.fr d))) (fun _ => some true) (mC (mCons (m2 ixD (getF 0) (getF 2)) (mCons (m2 ixD (getF 1) (getF 2)) (fun _ => some []))) g) [.fr e, .fr e, .no] ((List.range xs.length).map fun k => PyData.int (k : Nat))) fun vs => allD [.list vs] = some (.bool true) := by
    intro xs hl hx e he
    refine wO_lcGoP (fun _ v => v = .bool true) (fun d hd => ?_) (fun vs hv => ?_)
    · obtain ⟨k, rfl, hk⟩ := mem_range_int hd
      simp only [wipeE, List.set_cons_zero, List.set_cons_succ, wP_con, wP_getF, wP_getT, wP_m2, wP_m1, wP_mC, wP_mCons, wP_mTup, wP_mLim, wP_mList, wP_mIt, wP_mIf, wP_mBl, wP_mTru, wP_mNotB, wP_mAndB, wP_mOrB, wP_mNot, wP_mAnd, wP_mOr, wP_mIsi, wP_part, wP_mSl, wP_enum, wP_mZip, wP_mChain, wP_mLc, wE_mE, wE_m2E, wE_m1E, wE_mCE, wE_nil, wE_true, wE_mConsE, wE_mConsS, wE_mConsN, wE_mIfE, wE_mTruE, wE_mBlE, wE_mNotBE, wE_mAndBE, wE_mOrBE, wE_takeF, wE_mLcE, wS_mSeq, wS_mNext, wS_bk, wS_ct, wS_mRet, wS_mRetE, wS_mRetN, wS_mSet, wS_mSetE, wS_mSetN, wS_mSetNE, wS_mAsg, wS_mAsgE, wS_mIfS, wS_mIfSE, wS_mFor, wS_mForE, wS_mPar, wS_mApp, wS_mExt, wP_aug, wP_sti, wO_some, wO_ite, wO_getO, if_true, if_false, Bool.false_eq_true, true_and, List.getElem?_cons_zero, List.getElem?_cons_succ, List.set_cons_zero, List.set_cons_succ, r_len1, r_len2, r_len3, wP_mSlS, wE_mSlE, wE_partN, wE_part, wE_mSlEE, wP_dget, wP_din]
      rw [he k hk, List.getElem?_eq_getElem hk]
      simp only [wO_some]
      exact ⟨_, hg _ (hx _ (List.getElem_mem hk)), rfl⟩
    · exact all_true hv.all
  have ixt : ∀ (xs : List D) (k : Nat), k < xs.length → ixD (.tuple xs) (.int k) = xs[k]? := fun xs k hk => by rw [d_ixt, at_nat (List.getElem?_eq_getElem hk), List.getElem?_eq_getElem hk]
  have ixl : ∀ (xs : List D) (k : Nat), k < xs.length → ixD (.list xs) (.int k) = xs[k]? := fun xs k hk => by rw [d_ixl, at_nat (List.getElem?_eq_getElem hk), List.getElem?_eq_getElem hk]
  refine wO_fun rfl ?_
  have kt : ∀ xs, isKd .tuple (.tuple xs) = some (.bool true) := fun _ => rfl
  have kl : ∀ xs, isKd .list (.list xs) = some (.bool true) := fun _ => rfl
  have ktl : ∀ xs, isKd .tuple (.list xs) = some (.bool false) := fun _ => rfl
  simp only [b__law_same, startE, List.map_cons, List.map_nil, List.length_cons, List.length_nil, List.cons_append, List.nil_append, List.replicate, wP_con, wP_getF, wP_getT, wP_m2, wP_m1, wP_mC, wP_mCons, wP_mTup, wP_mLim, wP_mList, wP_mIt, wP_mIf, wP_mBl, wP_mTru, wP_mNotB, wP_mAndB, wP_mOrB, wP_mNot, wP_mAnd, wP_mOr, wP_mIsi, wP_part, wP_mSl, wP_enum, wP_mZip, wP_mChain, wP_mLc, wE_mE, wE_m2E, wE_m1E, wE_mCE, wE_nil, wE_true, wE_mConsE, wE_mConsS, wE_mConsN, wE_mIfE, wE_mTruE, wE_mBlE, wE_mNotBE, wE_mAndBE, wE_mOrBE, wE_takeF, wE_mLcE, wS_mSeq, wS_mNext, wS_bk, wS_ct, wS_mRet, wS_mRetE, wS_mRetN, wS_mSet, wS_mSetE, wS_mSetN, wS_mSetNE, wS_mAsg, wS_mAsgE, wS_mIfS, wS_mIfSE, wS_mFor, wS_mForE, wS_mPar, wS_mApp, wS_mExt, wP_aug, wP_sti, wO_some, wO_ite, wO_getO, if_true, if_false, Bool.false_eq_true, true_and, List.getElem?_cons_zero, List.getElem?_cons_succ, List.set_cons_zero, List.set_cons_succ, r_len1, r_len2, r_len3, wP_mSlS, wE_mSlE, wE_partN, wE_part, wE_mSlEE, wP_dget, wP_din]
  have hlt : ∀ {k : Nat}, k ≤ LL → k < 2 ^ 62 := fun h => Nat.lt_of_le_of_lt h (by decide)
  cases d with
  | tuple xs =>
    obtain ⟨h1, h2⟩ := hd
    simp only [kt, wO_some, d_trb, if_true, d_lent, d_eq, beq_self_eq_true, d_range (hlt h1), List.length_map, List.length_range]
    refine ⟨h1, ?_⟩
    obtain ⟨vs, e, hv⟩ := seq xs h1 h2 (.tuple xs) (ixt xs)
    exact ⟨vs, e, _, hv, _, rfl, rfl⟩
  | list xs =>
    obtain ⟨h1, h2⟩ := hd
    simp only [ktl, kl, wO_some, d_trb, if_true, d_lenl, d_eq, beq_self_eq_true, d_range (hlt h1), List.length_map, List.length_range]
    simp only [Bool.false_eq_true, if_false, if_true]
    refine ⟨h1, ?_⟩
    obtain ⟨vs, e, hv⟩ := seq xs h1 h2 (.list xs) (ixl xs)
    exact ⟨vs, e, _, hv, _, rfl, rfl⟩
  | none =>
    simp [isKd, wO_some, d_trb, d_is, isNone, outD]
  | bool c =>
    simp [isKd, wO_some, d_trb, d_eqb, outD]
  | int i =>
    simp [isKd, wO_some, d_trb, d_eq, outD]
  | str x =>
    simp [isKd, wO_some, d_trb, eqD_str hd, outD]
  | dict kv => exact absurd hd id
theorem same_rec : ∀ (n : Nat) (d : D), okD n d → recD (fun g => mFun 3 2 (b__law_same g)) n [d, d] = some (.bool true)
  | 0, _, h => absurd h id
  | n + 1, d, h => by
    obtain ⟨v, e, rfl⟩ := same_step n _ (same_rec n) d h
    exact e
theorem same_ok {d : D} (h : okD 12 d) : m__law_same [d, d] = some (.bool true) := same_rec 12 d h
/-! ### judging values -/
def isNum (d : D) (a b : Int) : Bool := match d with
  | .int i => decide (a ≤ i) && decide (i ≤ b)
  | _ => false
def noDict : D → Prop
  | .dict _ => False
  | _ => True
theorem num_ok {d : D} (h : noDict d) (a b : Int) : wO (m_is_number [d, .int a, .int b]) fun v => v = .bool (isNum d a b) := by
  refine wO_fun rfl ?_
  simp only [b_is_number, startE, List.map_cons, List.map_nil, List.length_cons, List.length_nil, List.cons_append, List.nil_append, List.replicate, wP_con, wP_getF, wP_getT, wP_m2, wP_m1, wP_mC, wP_mCons, wP_mTup, wP_mLim, wP_mList, wP_mIt, wP_mIf, wP_mBl, wP_mTru, wP_mNotB, wP_mAndB, wP_mOrB, wP_mNot, wP_mAnd, wP_mOr, wP_mIsi, wP_part, wP_mSl, wP_enum, wP_mZip, wP_mChain, wP_mLc, wE_mE, wE_m2E, wE_m1E, wE_mCE, wE_nil, wE_true, wE_mConsE, wE_mConsS, wE_mConsN, wE_mIfE, wE_mTruE, wE_mBlE, wE_mNotBE, wE_mAndBE, wE_mOrBE, wE_takeF, wE_mLcE, wS_mSeq, wS_mNext, wS_bk, wS_ct, wS_mRet, wS_mRetE, wS_mRetN, wS_mSet, wS_mSetE, wS_mSetN, wS_mSetNE, wS_mAsg, wS_mAsgE, wS_mIfS, wS_mIfSE, wS_mFor, wS_mForE, wS_mPar, wS_mApp, wS_mExt, wP_aug, wP_sti, wO_some, wO_ite, wO_getO, if_true, if_false, Bool.false_eq_true, true_and, List.getElem?_cons_zero, List.getElem?_cons_succ, List.set_cons_zero, List.set_cons_succ, r_len1, r_len2, r_len3, wP_mSlS, wE_mSlE, wE_partN, wE_part, wE_mSlEE, wP_dget, wP_din]
  cases d with
  | dict kv => exact absurd h id
  | int i =>
    simp only [isKd, wP_con, wP_getF, wP_getT, wP_m2, wP_m1, wP_mC, wP_mCons, wP_mTup, wP_mLim, wP_mList, wP_mIt, wP_mIf, wP_mBl, wP_mTru, wP_mNotB, wP_mAndB, wP_mOrB, wP_mNot, wP_mAnd, wP_mOr, wP_mIsi, wP_part, wP_mSl, wP_enum, wP_mZip, wP_mChain, wP_mLc, wE_mE, wE_m2E, wE_m1E, wE_mCE, wE_nil, wE_true, wE_mConsE, wE_mConsS, wE_mConsN, wE_mIfE, wE_mTruE, wE_mBlE, wE_mNotBE, wE_mAndBE, wE_mOrBE, wE_takeF, wE_mLcE, wS_mSeq, wS_mNext, wS_bk, wS_ct, wS_mRet, wS_mRetE, wS_mRetN, wS_mSet, wS_mSetE, wS_mSetN, wS_mSetNE, wS_mAsg, wS_mAsgE, wS_mIfS, wS_mIfSE, wS_mFor, wS_mForE, wS_mPar, wS_mApp, wS_mExt, wP_aug, wP_sti, wO_some, wO_ite, wO_getO, if_true, if_false, Bool.false_eq_true, true_and, List.getElem?_cons_zero, List.getElem?_cons_succ, List.set_cons_zero, List.set_cons_succ, r_len1, r_len2, r_len3, wP_mSlS, wE_mSlE, wE_partN, wE_part, wE_mSlEE, wP_dget, wP_din, Bool.not_false, d_le, isNum]
    by_cases h1 : a ≤ i <;> simp [h1, wO_some, d_le, outD, wP_con, wP_getF]
  | _ => simp [isKd, wO_some, isNum, outD]
def isRow (d : D) (a b : Int) : Bool := match d with
  | .tuple xs => decide (a ≤ xs.length) && decide ((xs.length : Int) ≤ b)
  | _ => false
theorem row_ok {d : D} (h : noDict d) (a b : Int) : wO (m_is_row [d, .int a, .int b]) fun v => v = .bool (isRow d a b) := by
  refine wO_fun rfl ?_
  simp only [b_is_row, startE, List.map_cons, List.map_nil, List.length_cons, List.length_nil, List.cons_append, List.nil_append, List.replicate, wP_con, wP_getF, wP_getT, wP_m2, wP_m1, wP_mC, wP_mCons, wP_mTup, wP_mLim, wP_mList, wP_mIt, wP_mIf, wP_mBl, wP_mTru, wP_mNotB, wP_mAndB, wP_mOrB, wP_mNot, wP_mAnd, wP_mOr, wP_mIsi, wP_part, wP_mSl, wP_enum, wP_mZip, wP_mChain, wP_mLc, wE_mE, wE_m2E, wE_m1E, wE_mCE, wE_nil, wE_true, wE_mConsE, wE_mConsS, wE_mConsN, wE_mIfE, wE_mTruE, wE_mBlE, wE_mNotBE, wE_mAndBE, wE_mOrBE, wE_takeF, wE_mLcE, wS_mSeq, wS_mNext, wS_bk, wS_ct, wS_mRet, wS_mRetE, wS_mRetN, wS_mSet, wS_mSetE, wS_mSetN, wS_mSetNE, wS_mAsg, wS_mAsgE, wS_mIfS, wS_mIfSE, wS_mFor, wS_mForE, wS_mPar, wS_mApp, wS_mExt, wP_aug, wP_sti, wO_some, wO_ite, wO_getO, if_true, if_false, Bool.false_eq_true, true_and, List.getElem?_cons_zero, List.getElem?_cons_succ, List.set_cons_zero, List.set_cons_succ, r_len1, r_len2, r_len3, wP_mSlS, wE_mSlE, wE_partN, wE_part, wE_mSlEE, wP_dget, wP_din]
  cases d with
  | dict kv => exact absurd h id
  | tuple xs =>
    simp only [isKd, wP_con, wP_getF, wP_getT, wP_m2, wP_m1, wP_mC, wP_mCons, wP_mTup, wP_mLim, wP_mList, wP_mIt, wP_mIf, wP_mBl, wP_mTru, wP_mNotB, wP_mAndB, wP_mOrB, wP_mNot, wP_mAnd, wP_mOr, wP_mIsi, wP_part, wP_mSl, wP_enum, wP_mZip, wP_mChain, wP_mLc, wE_mE, wE_m2E, wE_m1E, wE_mCE, wE_nil, wE_true, wE_mConsE, wE_mConsS, wE_mConsN, wE_mIfE, wE_mTruE, wE_mBlE, wE_mNotBE, wE_mAndBE, wE_mOrBE, wE_takeF, wE_mLcE, wS_mSeq, wS_mNext, wS_bk, wS_ct, wS_mRet, wS_mRetE, wS_mRetN, wS_mSet, wS_mSetE, wS_mSetN, wS_mSetNE, wS_mAsg, wS_mAsgE, wS_mIfS, wS_mIfSE, wS_mFor, wS_mForE, wS_mPar, wS_mApp, wS_mExt, wP_aug, wP_sti, wO_some, wO_ite, wO_getO, if_true, if_false, Bool.false_eq_true, true_and, List.getElem?_cons_zero, List.getElem?_cons_succ, List.set_cons_zero, List.set_cons_succ, r_len1, r_len2, r_len3, wP_mSlS, wE_mSlE, wE_partN, wE_part, wE_mSlEE, wP_dget, wP_din, d_lent, d_le, isRow]
    by_cases h1 : a ≤ xs.length <;> simp [h1, wO_some, d_le, outD, wP_con, wP_getF]
  | _ => simp [isKd, wO_some, isRow, outD]
theorem bools_lay (bs : List Bool) : plainOk (bs.map PyData.bool) = true := by
  have h1 : PyData.canLayAll0 (bs.map PyData.bool) = true := by
    induction bs with
    | nil => rfl
    | cons x xs ih =>
      show (true && PyData.canLayAll0 (xs.map PyData.bool)) = true
      rw [ih]; rfl
  have h2 : sizesOk (bs.map PyData.bool) = true := by
    unfold sizesOk
    rw [List.all_eq_true]
    intro x hx
    obtain ⟨c, _, rfl⟩ := List.mem_map.mp hx
    rfl
  unfold plainOk
  rw [h1, h2]; rfl
theorem all_bools (bs : List Bool) : allD [.list (bs.map PyData.bool)] = some (.bool (bs.all id)) := by
  show (if plainOk (bs.map PyData.bool) = true then some (PyData.bool ((bs.map PyData.bool).all PyData.truthy)) else none) = _
  rw [if_pos (bools_lay bs), List.all_map]
  rfl
theorem any_bools (bs : List Bool) : anyD [.list (bs.map PyData.bool)] = some (.bool (bs.any id)) := by
  show (if plainOk (bs.map PyData.bool) = true then some (PyData.bool ((bs.map PyData.bool).any PyData.truthy)) else none) = _
  rw [if_pos (bools_lay bs), List.any_map]
  rfl
/-- a value whose parts can be judged -/
def okV : D → Prop
  | .dict _ => False
  | .tuple xs => xs.length ≤ 100000 ∧ ∀ x ∈ xs, noDict x
  | _ => True
theorem okV.nd {d : D} (h : okV d) : noDict d := by cases d <;> first | trivial | exact absurd h id
def areNums (d : D) (a b : Int) : Bool := match d with
  | .tuple xs => xs.all fun x => isNum x a b
  | _ => false
def numB (a b : Int) (d : D) : D := .bool (isNum d a b)
theorem lnum_ok {d : D} (h : noDict d) (a b : Int) : wO (m__law_is_number [d, .int a, .int b]) fun v => v = .bool (isNum d a b) := by
  refine wO_fun rfl ?_
  simp only [b__law_is_number, startE, List.map_cons, List.map_nil, List.length_cons, List.length_nil, List.cons_append, List.nil_append, List.replicate, wP_con, wP_getF, wP_getT, wP_m2, wP_m1, wP_mC, wP_mCons, wP_mTup, wP_mLim, wP_mList, wP_mIt, wP_mIf, wP_mBl, wP_mTru, wP_mNotB, wP_mAndB, wP_mOrB, wP_mNot, wP_mAnd, wP_mOr, wP_mIsi, wP_part, wP_mSl, wP_enum, wP_mZip, wP_mChain, wP_mLc, wE_mE, wE_m2E, wE_m1E, wE_mCE, wE_nil, wE_true, wE_mConsE, wE_mConsS, wE_mConsN, wE_mIfE, wE_mTruE, wE_mBlE, wE_mNotBE, wE_mAndBE, wE_mOrBE, wE_takeF, wE_mLcE, wS_mSeq, wS_mNext, wS_bk, wS_ct, wS_mRet, wS_mRetE, wS_mRetN, wS_mSet, wS_mSetE, wS_mSetN, wS_mSetNE, wS_mAsg, wS_mAsgE, wS_mIfS, wS_mIfSE, wS_mFor, wS_mForE, wS_mPar, wS_mApp, wS_mExt, wP_aug, wP_sti, wO_some, wO_ite, wO_getO, if_true, if_false, Bool.false_eq_true, true_and, List.getElem?_cons_zero, List.getElem?_cons_succ, List.set_cons_zero, List.set_cons_succ, r_len1, r_len2, r_len3, wP_mSlS, wE_mSlE, wE_partN, wE_part, wE_mSlEE, wP_dget, wP_din]
  cases d with
  | dict kv => exact absurd h id
  | int i =>
    simp only [isKd, wP_con, wP_getF, wP_getT, wP_m2, wP_m1, wP_mC, wP_mCons, wP_mTup, wP_mLim, wP_mList, wP_mIt, wP_mIf, wP_mBl, wP_mTru, wP_mNotB, wP_mAndB, wP_mOrB, wP_mNot, wP_mAnd, wP_mOr, wP_mIsi, wP_part, wP_mSl, wP_enum, wP_mZip, wP_mChain, wP_mLc, wE_mE, wE_m2E, wE_m1E, wE_mCE, wE_nil, wE_true, wE_mConsE, wE_mConsS, wE_mConsN, wE_mIfE, wE_mTruE, wE_mBlE, wE_mNotBE, wE_mAndBE, wE_mOrBE, wE_takeF, wE_mLcE, wS_mSeq, wS_mNext, wS_bk, wS_ct, wS_mRet, wS_mRetE, wS_mRetN, wS_mSet, wS_mSetE, wS_mSetN, wS_mSetNE, wS_mAsg, wS_mAsgE, wS_mIfS, wS_mIfSE, wS_mFor, wS_mForE, wS_mPar, wS_mApp, wS_mExt, wP_aug, wP_sti, wO_some, wO_ite, wO_getO, if_true, if_false, Bool.false_eq_true, true_and, List.getElem?_cons_zero, List.getElem?_cons_succ, List.set_cons_zero, List.set_cons_succ, r_len1, r_len2, r_len3, wP_mSlS, wE_mSlE, wE_partN, wE_part, wE_mSlEE, wP_dget, wP_din, Bool.not_false, d_le, isNum]
    by_cases h1 : a ≤ i <;> simp [h1, wO_some, d_le, outD, wP_con, wP_getF]
  | _ => simp [isKd, wO_some, isNum, outD]
theorem pick_map {α : Type} {xs : List α} {f : Nat → α} : ∀ {ks : List Nat}, (∀ k ∈ ks, xs[k]? = some (f k)) → pick xs ks = ks.map f
  | [], _ => rfl
  | k :: ks, h => by
    unfold pick
    rw [List.filterMap_cons_some (h k List.mem_cons_self), List.map_cons]
    exact congrArg _ (pick_map fun x hx => h x (List.mem_cons_of_mem _ hx))
theorem placesT_rev (n : Nat) : placesT none none (-1) n = (List.range n).map fun k => n - 1 - k := by
  unfold placesT
  have e1 : (Builtin.Slice.sliceAdjust none none (-1) (n : Int)).1 = (n : Int) - 1 := rfl
  have e2 : (Builtin.Slice.sliceAdjust none none (-1) (n : Int)).2 = -1 := rfl
  rw [e1, e2]
  have e3 : Builtin.Slice.slicePlaces ((n : Int) - 1) (-1) (-1) = n := by
    unfold Builtin.Slice.slicePlaces
    rw [if_neg (by decide)]
    split
    · rw [show -(-1 : Int) = 1 from rfl, Int.ediv_one]; omega
    · omega
  rw [e3]
  apply List.map_congr_left
  intro k hk
  have := List.mem_range.mp hk
  omega
theorem pick_rev {α : Type} (xs : List α) : pick xs ((List.range xs.length).map fun k => xs.length - 1 - k) = xs.reverse := by
  cases xs with
  | nil => rfl
  | cons x r =>
    rw [pick_map (f := fun k => ((x :: r)[k]?).getD x) (fun k hk => ?_), List.map_map]
    · apply List.ext_getElem?
      intro i
      by_cases hi : i < (x :: r).length
      · rw [List.getElem?_map, List.getElem?_range hi, List.getElem?_reverse hi]
        show some (((x :: r)[(x :: r).length - 1 - i]?).getD x) = _
        rw [List.getElem?_eq_getElem (by omega)]
        rfl
      · rw [List.getElem?_eq_none (by rw [List.length_map, List.length_range]; omega), List.getElem?_eq_none (by rw [List.length_reverse]; omega)]
    · obtain ⟨i, hi, rfl⟩ := List.mem_map.mp hk
      have := List.mem_range.mp hi
      rw [List.getElem?_eq_getElem (by omega)]
      rfl
theorem rev_t {xs : List D} (h : xs.length ≤ LL) : slSD (.tuple xs) none none (-1) = some (.tuple xs.reverse) := by
  unfold slSD
  rw [if_neg (by decide)]
  simp only [placesT_rev, pick_rev]
  rw [if_pos (by rw [List.length_reverse]; exact h)]
/-- a value that can be judged, of a length -/
def okW (n : Nat) (d : D) : Prop := okV d ∧ ∀ xs, d = .tuple xs → xs.length ≤ n
theorem okW_nt {n : Nat} {d : D} (h : okV d) (k : ∀ xs, d ≠ .tuple xs) : okW n d := ⟨h, fun xs e => absurd e (k xs)⟩
theorem okW_t {n : Nat} {xs : List D} (hn : n ≤ 100000) (h : xs.length ≤ n) (k : ∀ x ∈ xs, noDict x) : okW n (.tuple xs) := ⟨⟨by omega, k⟩, fun ys e => by
  injection e with e
  subst e; exact h⟩
theorem nd_cut {xs : List D} {l h : Option Int} (k : ∀ x ∈ xs, noDict x) : ∀ x ∈ cutD xs l h, noDict x := fun x hx => k x (List.mem_of_mem_drop (List.mem_of_mem_take hx))
theorem cut_len {xs : List D} {l h : Option Int} : (cutD xs l h).length ≤ xs.length := by
  unfold cutD
  rw [List.length_take, List.length_drop]; omega
theorem nd_app {xs ys : List D} (h : ∀ x ∈ xs, noDict x) (k : ∀ x ∈ ys, noDict x) : ∀ x ∈ xs ++ ys, noDict x := fun x hx => (List.mem_append.mp hx).elim (h x) (k x)
theorem nd_one {d : D} (h : noDict d) : ∀ x ∈ [d], noDict x := fun x hx => by
  rw [List.mem_singleton] at hx
  subst hx; exact h
theorem sp_int (g : D → List D → Option (D × D)) {b : Nat} {bx : D} (hb : Bx b bx) (i : Int) : wO (mFunIO RB 1 4 2 (b__law_spoilt g) bx [.int i]) fun z => noDict z.1 ∧ Bx b z.2 := by
  refine wO_funIO hb rfl ?_
  simp only [startE, List.map_cons, List.map_nil, List.length_cons, List.length_nil, List.cons_append, List.nil_append, List.replicate]
  unfold b__law_spoilt
  refine wS_chkE ?_
  have k1 : isKd .tuple (.int i) = some (.bool false) := rfl
  have k2 : isKd .int (.int i) = some (.bool true) := rfl
  have k3 : isKd .bool (.int i) = some (.bool false) := rfl
  simp only [wE_mAndBE, wE_mE, wP_mTru, wP_mIsi, wP_getF, List.getElem?_cons_zero, List.getElem?_cons_succ, k1, wO_some, d_trb, Bool.false_eq_true, if_false]
  refine ⟨trivial, ?_⟩
  refine wS_set ?_
  simp only [wP_con, wP_getF, wP_getT, wP_m2, wP_m1, wP_mC, wP_mCons, wP_mTup, wP_mLim, wP_mList, wP_mIt, wP_mIf, wP_mBl, wP_mTru, wP_mNotB, wP_mAndB, wP_mOrB, wP_mNot, wP_mAnd, wP_mOr, wP_mIsi, wP_part, wP_mSl, wP_enum, wP_mZip, wP_mChain, wP_mLc, wE_mE, wE_m2E, wE_m1E, wE_mCE, wE_nil, wE_true, wE_mConsE, wE_mConsS, wE_mConsN, wE_mIfE, wE_mTruE, wE_mBlE, wE_mNotBE, wE_mAndBE, wE_mOrBE, wE_takeF, wE_mLcE, wO_some, wO_ite, wO_getO, if_true, if_false, Bool.false_eq_true, true_and, List.getElem?_cons_zero, List.getElem?_cons_succ, List.set_cons_zero, List.set_cons_succ, r_len1, r_len2, r_len3, wP_mSlS, wE_mSlE, wE_partN, wE_part, wE_mSlEE, wP_dget, wP_din, List.length_cons, List.length_nil, d_neg]
  refine ⟨ll_small (by decide), ll_small (by decide), ll_small (by decide), ?_⟩
  rw [wS_mSeq, wS_mIfS]
  simp only [wP_con, wP_getF, wP_getT, wP_m2, wP_m1, wP_mC, wP_mCons, wP_mTup, wP_mLim, wP_mList, wP_mIt, wP_mIf, wP_mBl, wP_mTru, wP_mNotB, wP_mAndB, wP_mOrB, wP_mNot, wP_mAnd, wP_mOr, wP_mIsi, wP_part, wP_mSl, wP_enum, wP_mZip, wP_mChain, wP_mLc, wE_mE, wE_m2E, wE_m1E, wE_mCE, wE_nil, wE_true, wE_mConsE, wE_mConsS, wE_mConsN, wE_mIfE, wE_mTruE, wE_mBlE, wE_mNotBE, wE_mAndBE, wE_mOrBE, wE_takeF, wE_mLcE, wO_some, wO_ite, wO_getO, if_true, if_false, Bool.false_eq_true, true_and, List.getElem?_cons_zero, List.getElem?_cons_succ, List.set_cons_zero, List.set_cons_succ, r_len1, r_len2, r_len3, wP_mSlS, wE_mSlE, wE_partN, wE_part, wE_mSlEE, wP_dget, wP_din, k2, k3, d_trb, Bool.not_false]
  simp only [wP_con, wP_getF, wP_getT, wP_m2, wP_m1, wP_mC, wP_mCons, wP_mTup, wP_mLim, wP_mList, wP_mIt, wP_mIf, wP_mBl, wP_mTru, wP_mNotB, wP_mAndB, wP_mOrB, wP_mNot, wP_mAnd, wP_mOr, wP_mIsi, wP_part, wP_mSl, wP_enum, wP_mZip, wP_mChain, wP_mLc, wE_mE, wE_m2E, wE_m1E, wE_mCE, wE_nil, wE_true, wE_mConsE, wE_mConsS, wE_mConsN, wE_mIfE, wE_mTruE, wE_mBlE, wE_mNotBE, wE_mAndBE, wE_mOrBE, wE_takeF, wE_mLcE, wS_mSeq, wS_mNext, wS_bk, wS_ct, wS_mRet, wS_mRetE, wS_mRetN, wS_mSet, wS_mSetE, wS_mSetN, wS_mSetNE, wS_mAsg, wS_mAsgE, wS_mIfS, wS_mIfSE, wS_mFor, wS_mForE, wS_mPar, wS_mApp, wS_mExt, wP_aug, wP_sti, wO_some, wO_ite, wO_getO, if_true, if_false, Bool.false_eq_true, true_and, List.getElem?_cons_zero, List.getElem?_cons_succ, List.set_cons_zero, List.set_cons_succ, r_len1, r_len2, r_len3, wP_mSlS, wE_mSlE, wE_partN, wE_part, wE_mSlEE, wP_dget, wP_din, List.length_cons, List.length_nil, d_add, d_sub, d_eq, d_neg]
  refine ⟨ll_small (by decide), ?_⟩
  rw [d_addl (by simp only [List.length_cons, List.length_nil]; exact ll_small (by decide))]
  simp only [wP_con, wP_getF, wP_getT, wP_m2, wP_m1, wP_mC, wP_mCons, wP_mTup, wP_mLim, wP_mList, wP_mIt, wP_mIf, wP_mBl, wP_mTru, wP_mNotB, wP_mAndB, wP_mOrB, wP_mNot, wP_mAnd, wP_mOr, wP_mIsi, wP_part, wP_mSl, wP_enum, wP_mZip, wP_mChain, wP_mLc, wE_mE, wE_m2E, wE_m1E, wE_mCE, wE_nil, wE_true, wE_mConsE, wE_mConsS, wE_mConsN, wE_mIfE, wE_mTruE, wE_mBlE, wE_mNotBE, wE_mAndBE, wE_mOrBE, wE_takeF, wE_mLcE, wS_mSeq, wS_mNext, wS_bk, wS_ct, wS_mRet, wS_mRetE, wS_mRetN, wS_mSet, wS_mSetE, wS_mSetN, wS_mSetNE, wS_mAsg, wS_mAsgE, wS_mIfS, wS_mIfSE, wS_mFor, wS_mForE, wS_mPar, wS_mApp, wS_mExt, wP_aug, wP_sti, wO_some, wO_ite, wO_getO, if_true, if_false, Bool.false_eq_true, true_and, List.getElem?_cons_zero, List.getElem?_cons_succ, List.set_cons_zero, List.set_cons_succ, r_len1, r_len2, r_len3, wP_mSlS, wE_mSlE, wE_partN, wE_part, wE_mSlEE, wP_dget, wP_din, k1, d_trb]
  refine wE_drawN (n := 14) (by simp only [mC, mCons, getF, List.getElem?_cons_zero, List.getElem?_cons_succ, Option.bind_some, Option.map_some, lenD, List.cons_append, List.nil_append, List.length_cons, List.length_nil]; rfl) rfl hb (by decide) (by decide) fun v bx1 v1 v2 hb1 => ?_
  obtain ⟨x, ex, q⟩ := at_mem (xs := [PyData.none, .tuple [], .int 0, .int (-1), .bool true, .str "a", .tuple [.int 0], .int 256, .int 1000001] ++ [.int (i + 1), .int (i - 1), .bool (i == 1), .int (-i), .int (i + 256)]) (P := noDict) v1 (by simpa using v2) (fun x hx => by
    simp only [List.cons_append, List.nil_append, List.mem_cons, List.not_mem_nil, or_false] at hx
    rcases hx with rfl | rfl | rfl | rfl | rfl | rfl | rfl | rfl | rfl | rfl | rfl | rfl | rfl | rfl <;> trivial)
  simp only [d_ixl, ex, wO_some, List.set_cons_zero, List.set_cons_succ]
  exact ⟨trivial, hb1, q, hb1⟩
def okG (E : D → Prop) (n : Nat) : D → Prop
  | .dict _ => False
  | .tuple xs => xs.length ≤ n ∧ n ≤ 100000 ∧ ∀ x ∈ xs, E x
  | _ => True
theorem g_app {E : D → Prop} {xs ys : List D} (h : ∀ x ∈ xs, E x) (k : ∀ x ∈ ys, E x) : ∀ x ∈ xs ++ ys, E x := fun x hx => (List.mem_append.mp hx).elim (h x) (k x)
theorem g_cut {E : D → Prop} {xs : List D} {l h : Option Int} (k : ∀ x ∈ xs, E x) : ∀ x ∈ cutD xs l h, E x := fun x hx => k x (List.mem_of_mem_drop (List.mem_of_mem_take hx))
theorem g_one {E : D → Prop} {d : D} (h : E d) : ∀ x ∈ [d], E x := fun x hx => by
  rw [List.mem_singleton] at hx
  subst hx; exact h
theorem g_t {E : D → Prop} {n : Nat} {xs : List D} (hn : n ≤ 100000) (h : xs.length ≤ n) (k : ∀ x ∈ xs, E x) : okG E n (.tuple xs) := ⟨h, hn, k⟩
theorem sp_T (E : D → Prop) (hE : E (.int 0)) (g : D → List D → Option (D × D)) {b : Nat} {bx : D} (hb : Bx b bx) {xs : List D} (hl : xs.length ≤ 5000) (hxs : ∀ x ∈ xs, E x) (hg : ∀ (bx : D), Bx b bx → ∀ x ∈ xs, wO (g bx [x]) fun z => E z.1 ∧ Bx b z.2) : wO (mFunIO RB 1 4 2 (b__law_spoilt g) bx [.tuple xs]) fun z => okG E (xs.length + 1) z.1 ∧ Bx b z.2 := by
  have hget : ∀ k, k < xs.length → ∃ x, atI xs (k : Int) = some x ∧ x ∈ xs := fun k hk => ⟨xs[k], at_nat (List.getElem?_eq_getElem hk), List.getElem_mem hk⟩
  have k1 : isKd .tuple (.tuple xs) = some (.bool true) := rfl
  have k2 : isKd .int (.tuple xs) = some (.bool false) := rfl
  have al : ∀ {xs ys : List D}, xs.length + ys.length ≤ 50000 → addD (.list xs) (.list ys) = some (.list (xs ++ ys)) := fun hl => d_addl (ll_small (by omega))
  have at_ : ∀ {xs ys : List D}, xs.length + ys.length ≤ 50000 → addD (.tuple xs) (.tuple ys) = some (.tuple (xs ++ ys)) := fun hl => d_addt (ll_small (by omega))
  refine wO_funIO hb rfl ?_
  simp only [startE, List.map_cons, List.map_nil, List.length_cons, List.length_nil, List.cons_append, List.nil_append, List.replicate]
  unfold b__law_spoilt
  have rest : ∀ bx, Bx b bx → wS (mSeq (mSet 3 (mList (mLim (mCons (fun _ => some .none) (mCons (mTup (fun _ => some [])) (mCons (fun _ => some (.int 0)) (mCons (m1 negD (fun _ => some (.int 1))) (mCons (fun _ => some (.bool true)) (mCons (fun _ => some (.str "a")) (mCons (mTup (mCons (fun _ => some (.int 0)) (fun _ => some []))) (mCons (fun _ => some (.int 256)) (mCons (fun _ => some (.int 1000001)) (fun _ => some [])))))))))))))
  (mSeq (mIfS (mAndB (mTru (mIsi .int (getF 1))) (mNotB (mTru (mIsi .bool (getF 1))))) (mSet 3 (m2 addD (getF 3) (mList (mLim (mCons (m2 addD (getF 1) (fun _ => some (.int 1))) (mCons (m2 subD (getF 1) (fun _ => some (.int 1))) (mCons (m2 eqD (getF 1) (fun _ => some (.int 1))) (mCons (m1 negD (getF 1)) (mCons (m2 addD (getF 1) (fun _ => some (.int 256))) (fun _ => some [])))))))))) mNext)
  (mSeq (mIfS (mTru (mIsi .tuple (getF 1))) (mSet 3 (m2 addD (getF 3) (mList (mLim (mCons (m2 addD (getF 1) (mTup (mCons (fun _ => some (.int 0)) (fun _ => some [])))) (mCons (mSl (getF 1) (fun _ => some none) (fun ρ => ((m1 negD (fun _ => some (.int 1))) ρ).bind fun d => partD (some d))) (mCons (mSlS (getF 1) (fun _ => some none) (fun _ => some none) (m1 negD (fun _ => some (.int 1)))) (mCons (mSl (getF 1) (fun ρ => ((fun _ => some (.int 1)) ρ).bind fun d => partD (some d)) (fun _ => some none)) (mCons (m2 addD (getF 1) (mSl (getF 1) (fun ρ => ((m1 negD (fun _ => some (.int 1))) ρ).bind fun d => partD (some d)) (fun _ => some none))) (fun _ => some [])))))))))) mNext)
  (mRetE (m2E ixD (mE (getF 3)) (mIO 0 1 (mE (mCons (mC (mCons (getF 3) (fun _ => some [])) lenD) (fun _ => some []))) drawD)))))) [.ob 1 bx, .fr (.tuple xs), .no, .no] fun o => match o with
    | .nx (.ob c d1 :: ρ) => c = 1 ∧ Bx b d1 ∧ okG E (xs.length + 1) PyData.none ∧ Bx b d1
    | .rt d (.ob c d1 :: ρ) => c = 1 ∧ Bx b d1 ∧ okG E (xs.length + 1) d ∧ Bx b d1
    | _ => False := fun bx hb => by
    have c1 : (cutD xs (some (-1)) none).length ≤ 1 := by
      unfold cutD
      rw [HT.sIx_none]
      rw [show HT.sIx xs.length 0 (some (-1)) = xs.length - 1 from by
        unfold HT.sIx
        simp only
        rw [if_pos (by decide)]
        omega]
      rw [List.length_take, List.length_drop]
      omega
    refine wS_set ?_
    simp only [wP_con, wP_getF, wP_getT, wP_m2, wP_m1, wP_mC, wP_mCons, wP_mTup, wP_mLim, wP_mList, wP_mIt, wP_mIf, wP_mBl, wP_mTru, wP_mNotB, wP_mAndB, wP_mOrB, wP_mNot, wP_mAnd, wP_mOr, wP_mIsi, wP_part, wP_mSl, wP_enum, wP_mZip, wP_mChain, wP_mLc, wE_mE, wE_m2E, wE_m1E, wE_mCE, wE_nil, wE_true, wE_mConsE, wE_mConsS, wE_mConsN, wE_mIfE, wE_mTruE, wE_mBlE, wE_mNotBE, wE_mAndBE, wE_mOrBE, wE_takeF, wE_mLcE, wO_some, wO_ite, wO_getO, if_true, if_false, Bool.false_eq_true, true_and, List.getElem?_cons_zero, List.getElem?_cons_succ, List.set_cons_zero, List.set_cons_succ, r_len1, r_len2, r_len3, wP_mSlS, wE_mSlE, wE_partN, wE_part, wE_mSlEE, wP_dget, wP_din, List.length_cons, List.length_nil, d_neg]
    refine ⟨ll_small (by decide), ll_small (by decide), ll_small (by decide), ?_⟩
    refine wS_chk ?_ ?_
    · simp only [wP_con, wP_getF, wP_getT, wP_m2, wP_m1, wP_mC, wP_mCons, wP_mTup, wP_mLim, wP_mList, wP_mIt, wP_mIf, wP_mBl, wP_mTru, wP_mNotB, wP_mAndB, wP_mOrB, wP_mNot, wP_mAnd, wP_mOr, wP_mIsi, wP_part, wP_mSl, wP_enum, wP_mZip, wP_mChain, wP_mLc, wE_mE, wE_m2E, wE_m1E, wE_mCE, wE_nil, wE_true, wE_mConsE, wE_mConsS, wE_mConsN, wE_mIfE, wE_mTruE, wE_mBlE, wE_mNotBE, wE_mAndBE, wE_mOrBE, wE_takeF, wE_mLcE, wO_some, wO_ite, wO_getO, if_true, if_false, Bool.false_eq_true, true_and, List.getElem?_cons_zero, List.getElem?_cons_succ, List.set_cons_zero, List.set_cons_succ, r_len1, r_len2, r_len3, wP_mSlS, wE_mSlE, wE_partN, wE_part, wE_mSlEE, wP_dget, wP_din, k2, d_trb]
    rw [wS_mSeq, wS_mIfS]
    simp only [wP_con, wP_getF, wP_getT, wP_m2, wP_m1, wP_mC, wP_mCons, wP_mTup, wP_mLim, wP_mList, wP_mIt, wP_mIf, wP_mBl, wP_mTru, wP_mNotB, wP_mAndB, wP_mOrB, wP_mNot, wP_mAnd, wP_mOr, wP_mIsi, wP_part, wP_mSl, wP_enum, wP_mZip, wP_mChain, wP_mLc, wE_mE, wE_m2E, wE_m1E, wE_mCE, wE_nil, wE_true, wE_mConsE, wE_mConsS, wE_mConsN, wE_mIfE, wE_mTruE, wE_mBlE, wE_mNotBE, wE_mAndBE, wE_mOrBE, wE_takeF, wE_mLcE, wO_some, wO_ite, wO_getO, if_true, if_false, Bool.false_eq_true, true_and, List.getElem?_cons_zero, List.getElem?_cons_succ, List.set_cons_zero, List.set_cons_succ, r_len1, r_len2, r_len3, wP_mSlS, wE_mSlE, wE_partN, wE_part, wE_mSlEE, wP_dget, wP_din, k1, d_trb]
    have r1 := rev_t (xs := xs) (ll_small (by omega))
    simp only [wP_con, wP_getF, wP_getT, wP_m2, wP_m1, wP_mC, wP_mCons, wP_mTup, wP_mLim, wP_mList, wP_mIt, wP_mIf, wP_mBl, wP_mTru, wP_mNotB, wP_mAndB, wP_mOrB, wP_mNot, wP_mAnd, wP_mOr, wP_mIsi, wP_part, wP_mSl, wP_enum, wP_mZip, wP_mChain, wP_mLc, wE_mE, wE_m2E, wE_m1E, wE_mCE, wE_nil, wE_true, wE_mConsE, wE_mConsS, wE_mConsN, wE_mIfE, wE_mTruE, wE_mBlE, wE_mNotBE, wE_mAndBE, wE_mOrBE, wE_takeF, wE_mLcE, wS_mSeq, wS_mNext, wS_bk, wS_ct, wS_mRet, wS_mRetE, wS_mRetN, wS_mSet, wS_mSetE, wS_mSetN, wS_mSetNE, wS_mAsg, wS_mAsgE, wS_mIfS, wS_mIfSE, wS_mFor, wS_mForE, wS_mPar, wS_mApp, wS_mExt, wP_aug, wP_sti, wO_some, wO_ite, wO_getO, if_true, if_false, Bool.false_eq_true, true_and, List.getElem?_cons_zero, List.getElem?_cons_succ, List.set_cons_zero, List.set_cons_succ, r_len1, r_len2, r_len3, wP_mSlS, wE_mSlE, wE_partN, wE_part, wE_mSlEE, wP_dget, wP_din, List.length_cons, List.length_nil, d_neg, d_part, d_slt, r1]
    refine ⟨ll_small (by decide), ?_⟩
    rw [at_ (by simp; omega), wO_some, at_ (by omega), wO_some]
    refine ⟨ll_small (by decide), ?_⟩
    rw [al (by simp)]
    simp only [wP_con, wP_getF, wP_getT, wP_m2, wP_m1, wP_mC, wP_mCons, wP_mTup, wP_mLim, wP_mList, wP_mIt, wP_mIf, wP_mBl, wP_mTru, wP_mNotB, wP_mAndB, wP_mOrB, wP_mNot, wP_mAnd, wP_mOr, wP_mIsi, wP_part, wP_mSl, wP_enum, wP_mZip, wP_mChain, wP_mLc, wE_mE, wE_m2E, wE_m1E, wE_mCE, wE_nil, wE_true, wE_mConsE, wE_mConsS, wE_mConsN, wE_mIfE, wE_mTruE, wE_mBlE, wE_mNotBE, wE_mAndBE, wE_mOrBE, wE_takeF, wE_mLcE, wS_mSeq, wS_mNext, wS_bk, wS_ct, wS_mRet, wS_mRetE, wS_mRetN, wS_mSet, wS_mSetE, wS_mSetN, wS_mSetNE, wS_mAsg, wS_mAsgE, wS_mIfS, wS_mIfSE, wS_mFor, wS_mForE, wS_mPar, wS_mApp, wS_mExt, wP_aug, wP_sti, wO_some, wO_ite, wO_getO, if_true, if_false, Bool.false_eq_true, true_and, List.getElem?_cons_zero, List.getElem?_cons_succ, List.set_cons_zero, List.set_cons_succ, r_len1, r_len2, r_len3, wP_mSlS, wE_mSlE, wE_partN, wE_part, wE_mSlEE, wP_dget, wP_din]
    refine wE_drawN (n := 14) (by simp only [mC, mCons, getF, List.getElem?_cons_zero, List.getElem?_cons_succ, Option.bind_some, Option.map_some, lenD, List.cons_append, List.nil_append, List.length_cons, List.length_nil]; rfl) rfl hb (by decide) (by decide) fun v bx1 v1 v2 hb1 => ?_
    obtain ⟨x, ex, q⟩ := at_mem (xs := [PyData.none, .tuple [], .int 0, .int (-1), .bool true, .str "a", .tuple [.int 0], .int 256, .int 1000001] ++ [.tuple (xs ++ [.int 0]), .tuple (cutD xs none (some (-1))), .tuple xs.reverse, .tuple (cutD xs (some 1) none), .tuple (xs ++ cutD xs (some (-1)) none)]) (P := okG E (xs.length + 1)) v1 (by simpa using v2) (fun x hx => by
      simp only [List.cons_append, List.nil_append, List.mem_cons, List.not_mem_nil, or_false] at hx
      rcases hx with rfl | rfl | rfl | rfl | rfl | rfl | rfl | rfl | rfl | rfl | rfl | rfl | rfl | rfl
      · exact trivial
      · exact g_t (by omega) (Nat.zero_le _) (fun x hx => by cases hx)
      · exact trivial
      · exact trivial
      · exact trivial
      · exact trivial
      · exact g_t (by omega) (by simp) (g_one hE)
      · exact trivial
      · exact trivial
      · exact g_t (by omega) (by simp) (g_app hxs (g_one hE))
      · exact g_t (by omega) (Nat.le_succ_of_le cut_len) (g_cut hxs)
      · exact g_t (by omega) (by rw [List.length_reverse]; omega) (fun x hx => hxs x (List.mem_reverse.mp hx))
      · exact g_t (by omega) (Nat.le_succ_of_le cut_len) (g_cut hxs)
      · exact g_t (by omega) (by rw [List.length_append]; omega) (g_app hxs (g_cut hxs)))
    simp only [d_ixl, ex, wO_some, List.set_cons_zero, List.set_cons_succ]
    exact ⟨trivial, hb1, q, hb1⟩
  rw [wS_mSeq, wS_mIfSE]
  simp only [wE_mAndBE, wE_mE, wP_mTru, wP_mIsi, wP_getF, List.getElem?_cons_zero, List.getElem?_cons_succ, k1, wO_some, d_trb, if_true, wP_mBl, wP_m2, wP_mC, wP_mCons, wP_con, d_lent, d_gt]
  by_cases h0 : 0 < xs.length
  · rw [decide_eq_true (by omega)]
    simp only [if_true, wE_mBlE, wE_m2E, wE_mE, wP_con]
    refine wE_draw rfl hb (by decide) (by decide) fun u bx1 u1 u2 hb1 => ?_
    simp only [d_gt, wO_some, blD]
    by_cases hu : 0 < u
    · rw [decide_eq_true hu]
      simp only [if_true]
      refine wS_setE ?_
      refine wE_drawN (n := (xs.length : Nat)) rfl rfl hb1 (by omega) (by omega) fun w bx2 w1 w2 hb2 => ?_
      obtain ⟨w, rfl⟩ : ∃ n : Nat, w = n := ⟨w.toNat, by omega⟩
      obtain ⟨i, hi, him⟩ := hget w (by omega)
      obtain ⟨⟨z, bx3⟩, e3, hz, hb3⟩ := hg bx2 hb2 i him
      simp only [List.set_cons_zero, List.set_cons_succ, wS_mRetE, wE_m2E, wE_mE, wE_mCE, wE_mConsE, wE_nil, wP_mSl, wP_getF, List.getElem?_cons_zero, List.getElem?_cons_succ, wP_con, wP_part, d_part, wO_some, d_slt]
      refine wE_call ⟨_, _, rfl⟩ ?_
      simp only [wE_mE, wP_mCons, wP_m2, wP_getF, List.getElem?_cons_zero, List.getElem?_cons_succ, wP_con, d_ixt, hi, wO_some]
      refine ⟨bx2, rfl, _, e3, ?_⟩
      have hc1 := cut_len (xs := xs) (l := none) (h := some (w : Int))
      have hc2 := cut_len (xs := xs) (l := some ((w : Int) + 1)) (h := none)
      have hcc : (cutD xs none (some (w : Int))).length + (cutD xs (some ((w : Int) + 1)) none).length ≤ xs.length := by
        unfold cutD
        rw [HT.sIx_none, HT.sIx_none, show (w : Int) + 1 = ((w + 1 : Nat) : Int) by omega, HT.sIx_nat, HT.sIx_nat, List.length_take, List.length_take, List.length_drop, List.length_drop]
        omega
      simp only [List.set_cons_zero, List.set_cons_succ, wP_con, wP_getF, wP_getT, wP_m2, wP_m1, wP_mC, wP_mCons, wP_mTup, wP_mLim, wP_mList, wP_mIt, wP_mIf, wP_mBl, wP_mTru, wP_mNotB, wP_mAndB, wP_mOrB, wP_mNot, wP_mAnd, wP_mOr, wP_mIsi, wP_part, wP_mSl, wP_enum, wP_mZip, wP_mChain, wP_mLc, wE_mE, wE_m2E, wE_m1E, wE_mCE, wE_nil, wE_true, wE_mConsE, wE_mConsS, wE_mConsN, wE_mIfE, wE_mTruE, wE_mBlE, wE_mNotBE, wE_mAndBE, wE_mOrBE, wE_takeF, wE_mLcE, wO_some, wO_ite, wO_getO, if_true, if_false, Bool.false_eq_true, true_and, List.getElem?_cons_zero, List.getElem?_cons_succ, List.set_cons_zero, List.set_cons_succ, r_len1, r_len2, r_len3, wP_mSlS, wE_mSlE, wE_partN, wE_part, wE_mSlEE, wP_dget, wP_din, List.length_cons, List.length_nil]
      refine ⟨ll_small (by decide), ?_⟩
      rw [at_ (by simp; omega)]
      simp only [wP_con, wP_getF, wP_getT, wP_m2, wP_m1, wP_mC, wP_mCons, wP_mTup, wP_mLim, wP_mList, wP_mIt, wP_mIf, wP_mBl, wP_mTru, wP_mNotB, wP_mAndB, wP_mOrB, wP_mNot, wP_mAnd, wP_mOr, wP_mIsi, wP_part, wP_mSl, wP_enum, wP_mZip, wP_mChain, wP_mLc, wE_mE, wE_m2E, wE_m1E, wE_mCE, wE_nil, wE_true, wE_mConsE, wE_mConsS, wE_mConsN, wE_mIfE, wE_mTruE, wE_mBlE, wE_mNotBE, wE_mAndBE, wE_mOrBE, wE_takeF, wE_mLcE, wO_some, wO_ite, wO_getO, if_true, if_false, Bool.false_eq_true, true_and, List.getElem?_cons_zero, List.getElem?_cons_succ, List.set_cons_zero, List.set_cons_succ, r_len1, r_len2, r_len3, wP_mSlS, wE_mSlE, wE_partN, wE_part, wE_mSlEE, wP_dget, wP_din, d_part, d_slt, d_add]
      rw [at_ (by rw [List.length_append]; simp; omega)]
      simp only [wO_some]
      exact ⟨hb3, g_t (n := xs.length + 1) (by omega) (by rw [List.length_append, List.length_append]; simp; omega) (g_app (g_app (g_cut hxs) (g_one hz)) (g_cut hxs)), hb3⟩
    · rw [decide_eq_false hu]
      simp only [Bool.false_eq_true, if_false, wS_mNext]
      exact rest bx1 hb1
  · rw [decide_eq_false (by omega)]
    simp only [Bool.false_eq_true, if_false, wS_mNext]
    exact rest bx hb
def nums (xs : List Int) : List D := xs.map .int
theorem nums_len {xs : List Int} : (nums xs).length = xs.length := by unfold nums; rw [List.length_map]
theorem mem_nums {xs : List Int} {d : D} (h : d ∈ nums xs) : ∃ i, d = .int i ∧ i ∈ xs := by
  obtain ⟨i, hi, rfl⟩ := List.mem_map.mp h
  exact ⟨i, rfl, hi⟩
theorem nums_get {xs : List Int} {k : Nat} {d : D} (h : (nums xs)[k]? = some d) : ∃ x, xs[k]? = some x ∧ d = .int x := by
  unfold nums at h
  rw [List.getElem?_map] at h
  obtain ⟨x, h1, h2⟩ := Option.map_eq_some_iff.mp h
  exact ⟨x, h1, h2.symm⟩
theorem ints_nums : ∀ xs : List Int, intsOf (nums xs) = some xs
  | [] => rfl
  | x :: r => by
    show (intsOf (nums r)).map (x :: ·) = _
    rw [ints_nums r]; rfl
theorem d_sum (xs : List Int) : sumD [.list (nums xs)] = some (.int xs.sum) := by
  show (intsOf (nums xs)).map _ = _
  rw [ints_nums]; rfl
theorem alike_pairs {ds : List D} (h : ∀ d ∈ ds, ∃ a b, d = .tuple [.int a, .int b]) : alikeOk ds = true := by
  unfold alikeOk
  have h1 : (ds.all fun x => (ds.all fun y => PySem.W.alike x y) && !isNone x) = true := by
    rw [List.all_eq_true]
    intro x hx
    obtain ⟨a, b, rfl⟩ := h x hx
    rw [Bool.and_eq_true]
    refine ⟨?_, rfl⟩
    rw [List.all_eq_true]
    intro y hy
    obtain ⟨c, d, rfl⟩ := h y hy
    rfl
  have h2 : PyData.canLayAll0 ds = true ∧ PyData.depthAll ds ≤ 1 := by
    clear h1
    induction ds with
    | nil => exact ⟨rfl, Nat.zero_le _⟩
    | cons d ds ih =>
      obtain ⟨i1, i2⟩ := ih fun x hx => h x (List.mem_cons_of_mem _ hx)
      obtain ⟨a, b, rfl⟩ := h d List.mem_cons_self
      refine ⟨?_, ?_⟩
      · show ((PyData.tuple [.int a, .int b]).canLay0 && PyData.canLayAll0 ds) = true
        rw [i1]; rfl
      · show max (PyData.depth (.tuple [.int a, .int b])) (PyData.depthAll ds) ≤ 1
        exact Nat.max_le.mpr ⟨Nat.le_refl 1, i2⟩
  rw [h1, h2.1, decide_eq_true (by omega)]; rfl
theorem same_int (i : Int) : m__law_same [.int i, .int i] = some (.bool true) := same_ok (d := .int i) trivial
theorem okI {n : Nat} {xs : List Int} (h : xs.length ≤ 100000) : okD (n + 2) (.tuple (nums xs)) := ⟨by rw [nums_len]; exact ll_small h, fun x hx => by
  obtain ⟨i, rfl, _⟩ := mem_nums hx
  trivial⟩
theorem same_nums {xs : List Int} (h : xs.length ≤ 100000) : m__law_same [.tuple (nums xs), .tuple (nums xs)] = some (.bool true) := same_ok (okI (n := 10) h)

def abI (i : Int) : Int := if i < 0 then -i else i
def abD : D → D
  | .int i => .int (abI i)
  | _ => .none
theorem ab_map (l : List Int) : (nums l).map abD = nums (l.map abI) := by
  unfold nums
  rw [List.map_map, List.map_map]
  rfl
theorem alike_ints {ds : List D} (h : ∀ d ∈ ds, ∃ a, d = .int a) : alikeOk ds = true := by
  unfold alikeOk
  have h1 : (ds.all fun x => (ds.all fun y => PySem.W.alike x y) && !isNone x) = true := by
    rw [List.all_eq_true]
    intro x hx
    obtain ⟨a, rfl⟩ := h x hx
    rw [Bool.and_eq_true]
    refine ⟨?_, rfl⟩
    rw [List.all_eq_true]
    intro y hy
    obtain ⟨c, rfl⟩ := h y hy
    rfl
  have h2 : PyData.canLayAll0 ds = true ∧ PyData.depthAll ds ≤ 1 := by
    clear h1
    induction ds with
    | nil => exact ⟨rfl, Nat.zero_le _⟩
    | cons d ds ih =>
      obtain ⟨i1, i2⟩ := ih fun x hx => h x (List.mem_cons_of_mem _ hx)
      obtain ⟨a, rfl⟩ := h d List.mem_cons_self
      refine ⟨?_, ?_⟩
      · show (true && PyData.canLayAll0 ds) = true
        rw [i1]; rfl
      · show max 0 (PyData.depthAll ds) ≤ 1
        exact Nat.max_le.mpr ⟨Nat.zero_le 1, i2⟩
  rw [h1, h2.1, decide_eq_true (by omega)]; rfl
theorem max_ints (x : Int) (r : List Int) : maxDD [.list (nums (x :: r))] = some (.int (r.foldl max x)) := by
  show (if alikeOk (nums (x :: r)) = true then some (PySem.W.maxD (.int x) (nums r)) else none) = _
  rw [if_pos (alike_ints fun d hd => by obtain ⟨i, rfl, _⟩ := mem_nums hd; exact ⟨i, rfl⟩)]
  exact congrArg some (PySem.W.maxD_ints x r)
def most (l : List Int) : Int := match l.map abI with
  | [] => 0
  | x :: r => r.foldl max x
theorem most_ok {l : List Int} (h : 1 ≤ l.length) : maxDD [.list (nums (l.map abI))] = some (.int (most l)) := by
  unfold most
  cases l with
  | nil => simp at h
  | cons x r => exact max_ints (abI x) (r.map abI)
theorem loudest_ok {l : List Int} (h : 1 ≤ l.length) (h2 : l.length ≤ 1000) : wO (m_loudest [.tuple (nums l)]) fun v => v = .int (most l) := by
  refine wO_fun rfl ?_
  simp only [b_loudest, startE, List.map_cons, List.map_nil, List.length_cons, List.length_nil, List.cons_append, List.nil_append, List.replicate, wP_con, wP_getF, wP_getT, wP_m2, wP_m1, wP_mC, wP_mCons, wP_mTup, wP_mLim, wP_mList, wP_mIt, wP_mIf, wP_mBl, wP_mTru, wP_mNotB, wP_mAndB, wP_mOrB, wP_mNot, wP_mAnd, wP_mOr, wP_mIsi, wP_part, wP_mSl, wP_enum, wP_mZip, wP_mChain, wP_mLc, wE_mE, wE_m2E, wE_m1E, wE_mCE, wE_nil, wE_true, wE_mConsE, wE_mConsS, wE_mConsN, wE_mIfE, wE_mTruE, wE_mBlE, wE_mNotBE, wE_mAndBE, wE_mOrBE, wE_takeF, wE_mLcE, wS_mSeq, wS_mNext, wS_bk, wS_ct, wS_mRet, wS_mRetE, wS_mRetN, wS_mSet, wS_mSetE, wS_mSetN, wS_mSetNE, wS_mAsg, wS_mAsgE, wS_mIfS, wS_mIfSE, wS_mFor, wS_mForE, wS_mPar, wS_mApp, wS_mExt, wP_aug, wP_sti, wO_some, wO_ite, wO_getO, if_true, if_false, Bool.false_eq_true, true_and, List.getElem?_cons_zero, List.getElem?_cons_succ, List.set_cons_zero, List.set_cons_succ, r_len1, r_len2, r_len3, wP_mSlS, wE_mSlE, wE_partN, wE_part, wE_mSlEE, wP_dget, wP_din, d_itemt, nums_len]
  refine ⟨ll_small (by omega), ?_⟩
  refine wO_lcGo1 abD (fun d hd => ?_) ?_
  · obtain ⟨v, rfl, _⟩ := mem_nums hd
    simp only [wipeE, List.set_cons_zero, List.set_cons_succ, wP_con, wP_getF, wP_getT, wP_m2, wP_m1, wP_mC, wP_mCons, wP_mTup, wP_mLim, wP_mList, wP_mIt, wP_mIf, wP_mBl, wP_mTru, wP_mNotB, wP_mAndB, wP_mOrB, wP_mNot, wP_mAnd, wP_mOr, wP_mIsi, wP_part, wP_mSl, wP_enum, wP_mZip, wP_mChain, wP_mLc, wE_mE, wE_m2E, wE_m1E, wE_mCE, wE_nil, wE_true, wE_mConsE, wE_mConsS, wE_mConsN, wE_mIfE, wE_mTruE, wE_mBlE, wE_mNotBE, wE_mAndBE, wE_mOrBE, wE_takeF, wE_mLcE, wS_mSeq, wS_mNext, wS_bk, wS_ct, wS_mRet, wS_mRetE, wS_mRetN, wS_mSet, wS_mSetE, wS_mSetN, wS_mSetNE, wS_mAsg, wS_mAsgE, wS_mIfS, wS_mIfSE, wS_mFor, wS_mForE, wS_mPar, wS_mApp, wS_mExt, wP_aug, wP_sti, wO_some, wO_ite, wO_getO, if_true, if_false, Bool.false_eq_true, true_and, List.getElem?_cons_zero, List.getElem?_cons_succ, List.set_cons_zero, List.set_cons_succ, r_len1, r_len2, r_len3, wP_mSlS, wE_mSlE, wE_partN, wE_part, wE_mSlEE, wP_dget, wP_din, d_abs, abD, abI]
  · rw [ab_map, most_ok h]
    simp only [wO_some, outD]
theorem quiet_ok {l : List Int} (h : 1 ≤ l.length) (h2 : l.length ≤ 1000) (v : Int) : wO (m_is_quiet [.tuple (nums l), .int v]) fun r => r = .bool (decide (most l ≤ v)) := by
  obtain ⟨_, e, rfl⟩ := loudest_ok h h2
  refine wO_fun rfl ?_
  simp only [b_is_quiet, startE, List.map_cons, List.map_nil, List.length_cons, List.length_nil, List.cons_append, List.nil_append, List.replicate, wP_con, wP_getF, wP_getT, wP_m2, wP_m1, wP_mC, wP_mCons, wP_mTup, wP_mLim, wP_mList, wP_mIt, wP_mIf, wP_mBl, wP_mTru, wP_mNotB, wP_mAndB, wP_mOrB, wP_mNot, wP_mAnd, wP_mOr, wP_mIsi, wP_part, wP_mSl, wP_enum, wP_mZip, wP_mChain, wP_mLc, wE_mE, wE_m2E, wE_m1E, wE_mCE, wE_nil, wE_true, wE_mConsE, wE_mConsS, wE_mConsN, wE_mIfE, wE_mTruE, wE_mBlE, wE_mNotBE, wE_mAndBE, wE_mOrBE, wE_takeF, wE_mLcE, wS_mSeq, wS_mNext, wS_bk, wS_ct, wS_mRet, wS_mRetE, wS_mRetN, wS_mSet, wS_mSetE, wS_mSetN, wS_mSetNE, wS_mAsg, wS_mAsgE, wS_mIfS, wS_mIfSE, wS_mFor, wS_mForE, wS_mPar, wS_mApp, wS_mExt, wP_aug, wP_sti, wO_some, wO_ite, wO_getO, if_true, if_false, Bool.false_eq_true, true_and, List.getElem?_cons_zero, List.getElem?_cons_succ, List.set_cons_zero, List.set_cons_succ, r_len1, r_len2, r_len3, wP_mSlS, wE_mSlE, wE_partN, wE_part, wE_mSlEE, wP_dget, wP_din, e, d_le, outD]
def inS (xs : List Int) : Prop := ∀ i ∈ xs, -256 ≤ i ∧ i ≤ 255
def tI (l : List Int) : D := .tuple (nums l)
/-! ### k01, plain -/
def loudB (L : Int) (f : List Int) : Bool := f.any fun x => decide (L < x) || decide (x < -L)
theorem fold_le (L : Int) : ∀ (r : List Int) (x : Int), r.foldl max x ≤ L ↔ x ≤ L ∧ ∀ y ∈ r, y ≤ L
  | [], x => by simp
  | z :: r, x => by
    rw [List.foldl_cons, fold_le L r (max x z)]
    constructor
    · rintro ⟨h1, h2⟩
      refine ⟨by omega, fun y hy => ?_⟩
      rcases List.mem_cons.mp hy with rfl | hy
      · omega
      · exact h2 y hy
    · rintro ⟨h1, h2⟩
      have := h2 z List.mem_cons_self
      exact ⟨by omega, fun y hy => h2 y (List.mem_cons_of_mem _ hy)⟩
theorem most_le {l : List Int} (h : 1 ≤ l.length) (L : Int) : most l ≤ L ↔ ∀ x ∈ l, abI x ≤ L := by
  unfold most
  cases l with
  | nil => simp at h
  | cons x r =>
    show (r.map abI).foldl max (abI x) ≤ L ↔ _
    rw [fold_le]
    simp
theorem quiet_loud {l : List Int} (h : 1 ≤ l.length) (L : Int) : decide (most l ≤ L) = !loudB L l := by
  have e : loudB L l = true ↔ ¬ most l ≤ L := by
    rw [most_le h]
    unfold loudB
    rw [List.any_eq_true]
    constructor
    · rintro ⟨x, hx, hd⟩ hall
      have := hall x hx
      simp only [Bool.or_eq_true, decide_eq_true_eq] at hd
      unfold abI at this
      split at this <;> omega
    · intro hn
      by_cases hc : ∃ x ∈ l, ¬ abI x ≤ L
      · obtain ⟨x, hx, hd⟩ := hc
        refine ⟨x, hx, ?_⟩
        simp only [Bool.or_eq_true, decide_eq_true_eq]
        unfold abI at hd
        split at hd <;> omega
      · exact absurd (fun x hx => Classical.byContradiction fun z => hc ⟨x, hx, z⟩) hn
  cases hl : loudB L l with
  | true => rw [decide_eq_false (e.mp hl)]; rfl
  | false =>
    rw [decide_eq_true (Classical.byContradiction fun z => by rw [e.mpr z] at hl; cases hl)]; rfl
def lft (lo : Nat → Bool) (h : Nat) : Nat → Int
  | 0 => -1
  | k + 1 => if lo k = true then (h : Int) else lft lo h k - 1
theorem lft_le (lo : Nat → Bool) (h : Nat) : ∀ k, lft lo h k ≤ h
  | 0 => by show (-1 : Int) ≤ h; omega
  | k + 1 => by
    have := lft_le lo h k
    show (if lo k = true then (h : Int) else lft lo h k - 1) ≤ h
    split <;> omega
theorem lft_iff (lo : Nat → Bool) (h : Nat) : ∀ (k d : Nat), d ≤ h → ((d : Int) ≤ lft lo h (k + 1) ↔ ∃ j, j ≤ k ∧ k + d ≤ j + h ∧ lo j = true)
  | 0, d, hd => by
    show (d : Int) ≤ (if lo 0 = true then (h : Int) else -1 - 1) ↔ _
    by_cases h0 : lo 0 = true
    · rw [if_pos h0]
      exact ⟨fun _ => ⟨0, Nat.le_refl _, by omega, h0⟩, fun _ => by omega⟩
    · rw [if_neg h0]
      refine ⟨fun z => by omega, fun ⟨j, h1, h2, h3⟩ => ?_⟩
      rw [show j = 0 by omega] at h3
      exact absurd h3 h0
  | k + 1, d, hd => by
    show (d : Int) ≤ (if lo (k + 1) = true then (h : Int) else lft lo h (k + 1) - 1) ↔ _
    by_cases h0 : lo (k + 1) = true
    · rw [if_pos h0]
      exact ⟨fun _ => ⟨k + 1, Nat.le_refl _, by omega, h0⟩, fun _ => by omega⟩
    · rw [if_neg h0]
      by_cases hd1 : d + 1 ≤ h
      · have ih := lft_iff lo h k (d + 1) hd1
        constructor
        · intro z
          obtain ⟨j, h1, h2, h3⟩ := ih.mp (by omega)
          exact ⟨j, by omega, by omega, h3⟩
        · rintro ⟨j, h1, h2, h3⟩
          have hj : j ≠ k + 1 := fun z => h0 (by rw [← z]; exact h3)
          have := ih.mpr ⟨j, by omega, by omega, h3⟩
          omega
      · have := lft_le lo h (k + 1)
        refine ⟨fun z => by omega, fun ⟨j, h1, h2, h3⟩ => ?_⟩
        rw [show j = k + 1 by omega] at h3
        exact absurd h3 h0
def wi (lo : Nat → Bool) (h k : Nat) : Bool := decide (0 ≤ lft lo h (k + 1))
theorem wi_win (ls : List Bool) (h k : Nat) (hk : k < ls.length) : ((ls.drop (k - h)).take (k + 1 - (k - h))).any id = wi (fun j => ls[j]?.getD false) h k := by
  have hi := lft_iff (fun j => ls[j]?.getD false) h k 0 (Nat.zero_le _)
  unfold wi
  have e : ((ls.drop (k - h)).take (k + 1 - (k - h))).any id = true ↔ ∃ j, j ≤ k ∧ k + 0 ≤ j + h ∧ ls[j]?.getD false = true := by
    rw [List.any_eq_true]
    constructor
    · rintro ⟨x, hx, hx1⟩
      obtain ⟨i, hi⟩ := List.mem_iff_getElem?.mp hx
      have hlt : i < k + 1 - (k - h) := by
        have := (List.getElem?_eq_some_iff.mp hi).1
        rw [List.length_take] at this
        omega
      rw [List.getElem?_take_of_lt hlt, List.getElem?_drop] at hi
      refine ⟨k - h + i, by omega, by omega, ?_⟩
      rw [hi]; exact hx1
    · rintro ⟨j, h1, h2, h3⟩
      refine ⟨true, List.mem_iff_getElem?.mpr ⟨j - (k - h), ?_⟩, rfl⟩
      rw [List.getElem?_take_of_lt (by omega), List.getElem?_drop, show k - h + (j - (k - h)) = j by omega]
      rw [List.getElem?_eq_getElem (by omega)] at h3 ⊢
      exact congrArg some h3
  cases hl : ((ls.drop (k - h)).take (k + 1 - (k - h))).any id with
  | true => rw [decide_eq_true (by have := hi.mpr (e.mp hl); simpa using this)]
  | false =>
    rw [decide_eq_false]
    intro z
    have := e.mpr (hi.mp (by simpa using z))
    rw [hl] at this
    cases this
/-- the spurts, the last one first -/
def spN (lg k : Nat) : List (Nat × Nat) → List (Nat × Nat)
  | [] => [(k, 1)]
  | (a, b) :: r => if a + b = k ∧ b < lg then (a, b + 1) :: r else (k, 1) :: (a, b) :: r
theorem spN_cons {lg k a b : Nat} {r : List (Nat × Nat)} : spN lg k ((a, b) :: r) = if a + b = k ∧ b < lg then (a, b + 1) :: r else (k, 1) :: (a, b) :: r := rfl
def spR (W : Nat → Bool) (lg : Nat) : Nat → List (Nat × Nat)
  | 0 => []
  | k + 1 => if W k = true then spN lg k (spR W lg k) else spR W lg k
def okR (lg : Nat) : Nat → List (Nat × Nat) → Prop
  | _, [] => True
  | e, (a, b) :: r => a + b ≤ e ∧ 1 ≤ b ∧ b ≤ lg ∧ okR lg a r
theorem okR_up {lg : Nat} {e e' : Nat} (h : e ≤ e') : ∀ {l : List (Nat × Nat)}, okR lg e l → okR lg e' l
  | [], _ => trivial
  | (a, b) :: r, ⟨h1, h2⟩ => ⟨by omega, h2⟩
theorem spN_ok {lg k : Nat} (hlg : 1 ≤ lg) : ∀ {l : List (Nat × Nat)}, okR lg k l → okR lg (k + 1) (spN lg k l)
  | [], _ => ⟨Nat.le_refl _, Nat.le_refl _, hlg, trivial⟩
  | (a, b) :: r, ⟨h1, h2, h3, h4⟩ => by
    rw [spN_cons]
    split
    · exact ⟨by omega, by omega, by omega, h4⟩
    · exact ⟨Nat.le_refl _, Nat.le_refl _, hlg, by omega, h2, h3, h4⟩
theorem spR_ok {W : Nat → Bool} {lg : Nat} (hlg : 1 ≤ lg) : ∀ k, okR lg k (spR W lg k)
  | 0 => trivial
  | k + 1 => by
    have := spR_ok (W := W) hlg k
    show okR lg (k + 1) (if W k = true then spN lg k (spR W lg k) else spR W lg k)
    split
    · exact spN_ok hlg this
    · exact okR_up (Nat.le_succ k) this
def hd1 : List (Nat × Nat) → Nat
  | [] => 0
  | (a, b) :: _ => a + b
theorem spN_hd {lg k : Nat} : ∀ {l : List (Nat × Nat)}, hd1 (spN lg k l) = k + 1 ∧ spN lg k l ≠ []
  | [] => ⟨rfl, fun z => nomatch z⟩
  | (a, b) :: r => by
    rw [spN_cons]
    split
    · rename_i h
      exact ⟨by show a + (b + 1) = k + 1; omega, fun z => nomatch z⟩
    · exact ⟨rfl, fun z => nomatch z⟩
/-- the last one ends where the next frame stands, just if the frame before is in -/
theorem spR_end {W : Nat → Bool} {lg : Nat} (hlg : 1 ≤ lg) : ∀ k, (spR W lg k ≠ [] ∧ hd1 (spR W lg k) = k) ↔ (1 ≤ k ∧ W (k - 1) = true)
  | 0 => by
    show (([] : List (Nat × Nat)) ≠ [] ∧ _) ↔ _
    simp
  | k + 1 => by
    show ((if W k = true then spN lg k (spR W lg k) else spR W lg k) ≠ [] ∧ hd1 (if W k = true then spN lg k (spR W lg k) else spR W lg k) = k + 1) ↔ (1 ≤ k + 1 ∧ W k = true)
    by_cases h : W k = true
    · rw [if_pos h]
      exact ⟨fun _ => ⟨by omega, h⟩, fun _ => ⟨spN_hd.2, spN_hd.1⟩⟩
    · rw [if_neg h]
      refine ⟨fun ⟨h1, h2⟩ => ?_, fun z => absurd z.2 h⟩
      have hok := spR_ok (W := W) hlg k
      generalize spR W lg k = l at *
      cases l with
      | nil => exact absurd rfl h1
      | cons p r =>
        obtain ⟨a, b⟩ := p
        have := hok.1
        have h2 : a + b = k + 1 := h2
        omega
def cov (l : List (Nat × Nat)) (i : Nat) : Prop := ∃ p ∈ l, p.1 ≤ i ∧ i < p.1 + p.2
theorem spN_cov {lg k i : Nat} : ∀ {l : List (Nat × Nat)}, cov l i → cov (spN lg k l) i
  | [], h => by obtain ⟨p, hp, _⟩ := h; cases hp
  | (a, b) :: r, ⟨p, hp, h1, h2⟩ => by
    rw [spN_cons]
    split
    · rcases List.mem_cons.mp hp with rfl | hp
      · exact ⟨(a, b + 1), List.mem_cons_self, h1, by simp only at h2 ⊢; omega⟩
      · exact ⟨p, List.mem_cons_of_mem _ hp, h1, h2⟩
    · exact ⟨p, List.mem_cons_of_mem _ hp, h1, h2⟩
theorem spN_new {lg k : Nat} : ∀ {l : List (Nat × Nat)}, cov (spN lg k l) k
  | [] => ⟨(k, 1), List.mem_cons_self, Nat.le_refl _, by simp⟩
  | (a, b) :: r => by
    rw [spN_cons]
    split
    · rename_i h
      exact ⟨(a, b + 1), List.mem_cons_self, by simp only; omega, by simp only; omega⟩
    · exact ⟨(k, 1), List.mem_cons_self, Nat.le_refl _, by simp⟩
theorem spR_cov {W : Nat → Bool} {lg : Nat} : ∀ k i, i < k → W i = true → cov (spR W lg k) i
  | 0, _, h, _ => absurd h (Nat.not_lt_zero _)
  | k + 1, i, h, hw => by
    show cov (if W k = true then spN lg k (spR W lg k) else spR W lg k) i
    by_cases hi : i = k
    · subst hi
      rw [if_pos hw]
      exact spN_new
    · have := spR_cov (W := W) (lg := lg) k i (by omega) hw
      split
      · exact spN_cov this
      · exact this
def srt (lg : Nat) : Nat → List (Nat × Nat) → Prop
  | _, [] => True
  | f, (a, b) :: r => f ≤ a ∧ 1 ≤ b ∧ b ≤ lg ∧ srt lg (a + b) r
def enE : Nat → List (Nat × Nat) → Nat
  | f, [] => f
  | _, (a, b) :: r => enE (a + b) r
theorem srt_snoc {lg a b : Nat} : ∀ {l : List (Nat × Nat)} {f : Nat}, srt lg f l → enE f l ≤ a → 1 ≤ b → b ≤ lg → srt lg f (l ++ [(a, b)])
  | [], f, _, h, h1, h2 => ⟨h, h1, h2, trivial⟩
  | (c, d) :: r, f, ⟨g1, g2, g3, g4⟩, h, h1, h2 => ⟨g1, g2, g3, srt_snoc g4 h h1 h2⟩
theorem enE_snoc {a b : Nat} : ∀ {l : List (Nat × Nat)} {f : Nat}, enE f (l ++ [(a, b)]) = a + b
  | [], _ => rfl
  | (c, d) :: r, _ => enE_snoc (l := r)
theorem okR_srt {lg : Nat} : ∀ {l : List (Nat × Nat)} {e : Nat}, okR lg e l → srt lg 0 l.reverse ∧ enE 0 l.reverse ≤ e
  | [], e, _ => ⟨trivial, Nat.zero_le _⟩
  | (a, b) :: r, e, ⟨h1, h2, h3, h4⟩ => by
    obtain ⟨g1, g2⟩ := okR_srt h4
    rw [List.reverse_cons]
    exact ⟨srt_snoc g1 g2 h2 h3, by rw [enE_snoc]; exact h1⟩
theorem srt_le {lg : Nat} : ∀ {l : List (Nat × Nat)} {f : Nat}, srt lg f l → f ≤ enE f l
  | [], f, _ => Nat.le_refl f
  | (a, b) :: r, f, ⟨h1, h2, h3, h4⟩ => by
    have := srt_le h4
    show f ≤ enE (a + b) r
    omega
/-- the spurt of a frame, and its place -/
def spAt : List (Nat × Nat) → Nat → Nat → Option (Nat × Nat)
  | [], _, _ => none
  | (a, b) :: r, n, i => if a ≤ i ∧ i < a + b then some (n, i - a) else spAt r (n + 1) i
theorem spAt_cov : ∀ {l : List (Nat × Nat)} {n i : Nat}, (spAt l n i).isSome = true ↔ cov l i
  | [], n, i => by
    constructor
    · intro h; cases h
    · rintro ⟨p, hp, _⟩; cases hp
  | (a, b) :: r, n, i => by
    unfold spAt
    by_cases h : a ≤ i ∧ i < a + b
    · rw [if_pos h]
      exact ⟨fun _ => ⟨(a, b), List.mem_cons_self, h.1, h.2⟩, fun _ => rfl⟩
    · rw [if_neg h, spAt_cov]
      constructor
      · rintro ⟨p, hp, h1, h2⟩
        exact ⟨p, List.mem_cons_of_mem _ hp, h1, h2⟩
      · rintro ⟨p, hp, h1, h2⟩
        rcases List.mem_cons.mp hp with rfl | hp
        · exact absurd ⟨h1, h2⟩ h
        · exact ⟨p, hp, h1, h2⟩
theorem spAt_cons {a b n i : Nat} {r : List (Nat × Nat)} : spAt ((a, b) :: r) n i = if a ≤ i ∧ i < a + b then some (n, i - a) else spAt r (n + 1) i := rfl
theorem spAt_app : ∀ {l m : List (Nat × Nat)} {n i : Nat}, spAt (l ++ m) n i = match spAt l n i with | some x => some x | none => spAt m (n + l.length) i
  | [], m, n, i => rfl
  | (a, b) :: r, m, n, i => by
    rw [List.cons_append, spAt_cons, spAt_cons]
    by_cases h : a ≤ i ∧ i < a + b
    · rw [if_pos h, if_pos h]
    · rw [if_neg h, if_neg h, spAt_app, List.length_cons, show n + 1 + r.length = n + (r.length + 1) by omega]
theorem srt_none {lg : Nat} : ∀ {l : List (Nat × Nat)} {f n i : Nat}, srt lg f l → enE f l ≤ i → spAt l n i = none
  | [], _, _, _, _, _ => rfl
  | (a, b) :: r, f, n, i, ⟨h1, h2, h3, h4⟩, h => by
    have h5 := srt_le h4
    have h : enE (a + b) r ≤ i := h
    unfold spAt
    rw [if_neg (by omega)]
    exact srt_none h4 h
theorem srt_app {lg : Nat} : ∀ {l m : List (Nat × Nat)} {f : Nat}, srt lg f (l ++ m) → srt lg f l ∧ srt lg (enE f l) m
  | [], m, f, h => ⟨trivial, h⟩
  | (a, b) :: r, m, f, ⟨h1, h2, h3, h4⟩ => by
    obtain ⟨g1, g2⟩ := srt_app h4
    exact ⟨⟨h1, h2, h3, g1⟩, g2⟩
def pD (p : Nat × Nat) : D := .tuple [.int (p.1 : Int), .int (p.2 : Int)]
def loF (L : Int) (fs : List (List Int)) (k : Nat) : Bool := ((fs.map (loudB L))[k]?).getD false
theorem loF_get {L : Int} {fs : List (List Int)} {k : Nat} {f : List Int} (h : fs[k]? = some f) : loF L fs k = loudB L f := by
  unfold loF
  rw [List.getElem?_map, h]; rfl
theorem enum_gen {ds : List D} {i : Nat} {d : D} (h : (enumL ds)[i]? = some d) : ∃ x, ds[i]? = some x ∧ d = .tuple [.int (i : Nat), x] := by
  have hi : i < ds.length := by
    have := (List.getElem?_eq_some_iff.mp h).1
    rwa [enumL_length] at this
  have h2 := enumL_get (List.getElem?_eq_getElem hi)
  rw [h] at h2
  exact ⟨_, List.getElem?_eq_getElem hi, Option.some.inj h2⟩
theorem ixN_m1 {n : Nat} (h : 1 ≤ n) : ixN n (-1) = some (n - 1) := by
  unfold ixN
  rw [if_neg (by decide), if_pos (by omega)]
  congr 1
  omega
theorem set_last (l : List D) (x y : D) : (l ++ [x]).set ((l ++ [x]).length - 1) y = l ++ [y] := by
  rw [List.length_append]
  show (l ++ [x]).set (l.length + 1 - 1) y = _
  rw [Nat.add_sub_cancel, List.set_append_right _ _ (Nat.le_refl _), Nat.sub_self]
  rfl
section
variable {W : Nat → Bool} {lg : Nat}
def fD (l : List (Nat × Nat)) : List D := l.reverse.map pD
theorem fD_cons (p : Nat × Nat) (r : List (Nat × Nat)) : fD (p :: r) = fD r ++ [pD p] := by
  unfold fD
  rw [List.reverse_cons, List.map_append]; rfl
theorem fD_len (l : List (Nat × Nat)) : (fD l).length = l.length := by
  unfold fD
  rw [List.length_map, List.length_reverse]
theorem spN_len {k : Nat} : ∀ {l : List (Nat × Nat)}, (spN lg k l).length ≤ l.length + 1
  | [] => Nat.le_refl _
  | (a, b) :: r => by
    rw [spN_cons]
    split
    · simp
    · simp
theorem spR_len : ∀ k, (spR W lg k).length ≤ k
  | 0 => Nat.le_refl _
  | k + 1 => by
    have := spR_len k
    show (if W k = true then spN lg k (spR W lg k) else spR W lg k).length ≤ k + 1
    split
    · have := spN_len (lg := lg) (k := k) (l := spR W lg k); omega
    · omega
/-- a frame that is in is put behind the last spurt, or begins one -/
theorem put_ok {l : List (Nat × Nat)} {k : Nat} (hl : l.length ≤ 1000) (s0 s1 s2 s5 s7 s8 : Sl) :
    wS (mSeq (mSet 8 (mIf (mTru (getT 4)) (m2 ixD (getT 4) (m1 negD (fun _ => some (.int 1)))) (mTup (mCons (fun _ => some (.int 0)) (mCons (fun _ => some (.int 0)) (fun _ => some []))))))
  (mIfS (mAndB (mTru (getT 4)) (mAndB (mBl (m2 eqD (m2 addD (m2 ixD (getF 8) (fun _ => some (.int 0))) (m2 ixD (getF 8) (fun _ => some (.int 1)))) (getF 6))) (mBl (m2 ltD (m2 ixD (getF 8) (fun _ => some (.int 1))) (getF 3))))) (mSti 4 (mE (mTup (mCons (m2 ixD (getF 8) (fun _ => some (.int 0))) (mCons (m2 addD (m2 ixD (getF 8) (fun _ => some (.int 1))) (fun _ => some (.int 1))) (fun _ => some []))))) (m1 negD (fun _ => some (.int 1)))) (mApp 4 (mE (mTup (mCons (getF 6) (mCons (fun _ => some (.int 1)) (fun _ => some []))))))))
      [s0, s1, s2, .fr (.int (lg : Int)), .ow (.list (fD l)), s5, .fr (.int (k : Int)), s7, s8] fun o => ∃ s8, o = .nx [s0, s1, s2, .fr (.int (lg : Int)), .ow (.list (fD (spN lg k l))), s5, .fr (.int (k : Int)), s7, s8] := by
  have hll : (fD l).length < LL := Nat.lt_of_le_of_lt (show _ ≤ 1000 by rw [fD_len]; exact hl) (by decide)
  refine wS_set ?_
  cases l with
  | nil =>
    have e0 : fD [] = [] := rfl
    rw [e0] at hll ⊢
    simp only [wP_con, wP_getF, wP_getT, wP_m2, wP_m1, wP_mC, wP_mCons, wP_mTup, wP_mLim, wP_mList, wP_mIt, wP_mIf, wP_mBl, wP_mTru, wP_mNotB, wP_mAndB, wP_mOrB, wP_mNot, wP_mAnd, wP_mOr, wP_mIsi, wP_part, wP_mSl, wP_enum, wP_mZip, wP_mChain, wP_mLc, wE_mE, wE_m2E, wE_m1E, wE_mCE, wE_nil, wE_true, wE_mConsE, wE_mConsS, wE_mConsN, wE_mIfE, wE_mTruE, wE_mBlE, wE_mNotBE, wE_mAndBE, wE_mOrBE, wE_takeF, wE_mLcE, wS_mSeq, wS_mNext, wS_bk, wS_ct, wS_mRet, wS_mRetE, wS_mRetN, wS_mSet, wS_mSetE, wS_mSetN, wS_mSetNE, wS_mAsg, wS_mAsgE, wS_mIfS, wS_mIfSE, wS_mFor, wS_mForE, wS_mPar, wS_mApp, wS_mExt, wP_aug, wP_sti, wO_some, wO_ite, wO_getO, if_true, if_false, Bool.false_eq_true, true_and, List.getElem?_cons_zero, List.getElem?_cons_succ, List.set_cons_zero, List.set_cons_succ, r_len1, r_len2, r_len3, wP_mSlS, wE_mSlE, wE_partN, wE_part, wE_mSlEE, wP_dget, wP_din, d_trl, List.isEmpty_nil, Bool.not_true, List.length_cons, List.length_nil]
    refine ⟨ll_small (by decide), ll_small (by decide), by decide, _, rfl⟩
  | cons p r =>
    obtain ⟨a, b⟩ := p
    rw [fD_cons] at hll ⊢
    have hne : (fD r ++ [pD (a, b)]).isEmpty = false := by simp
    have hla : atI (fD r ++ [pD (a, b)]) (-1) = some (pD (a, b)) := atI_last _ _
    have i0 : ixD (pD (a, b)) (.int 0) = some (.int (a : Int)) := rfl
    have i1 : ixD (pD (a, b)) (.int 1) = some (.int (b : Int)) := rfl
    have hlen : 1 ≤ (fD r ++ [pD (a, b)]).length := by rw [List.length_append]; simp
    simp only [wP_con, wP_getF, wP_getT, wP_m2, wP_m1, wP_mC, wP_mCons, wP_mTup, wP_mLim, wP_mList, wP_mIt, wP_mIf, wP_mBl, wP_mTru, wP_mNotB, wP_mAndB, wP_mOrB, wP_mNot, wP_mAnd, wP_mOr, wP_mIsi, wP_part, wP_mSl, wP_enum, wP_mZip, wP_mChain, wP_mLc, wE_mE, wE_m2E, wE_m1E, wE_mCE, wE_nil, wE_true, wE_mConsE, wE_mConsS, wE_mConsN, wE_mIfE, wE_mTruE, wE_mBlE, wE_mNotBE, wE_mAndBE, wE_mOrBE, wE_takeF, wE_mLcE, wO_some, wO_ite, wO_getO, if_true, if_false, Bool.false_eq_true, true_and, List.getElem?_cons_zero, List.getElem?_cons_succ, List.set_cons_zero, List.set_cons_succ, r_len1, r_len2, r_len3, wP_mSlS, wE_mSlE, wE_partN, wE_part, wE_mSlEE, wP_dget, wP_din, d_trl, hne, Bool.not_false, d_neg, d_ixl, hla]
    rw [wS_mIfS]
    simp only [wP_con, wP_getF, wP_getT, wP_m2, wP_m1, wP_mC, wP_mCons, wP_mTup, wP_mLim, wP_mList, wP_mIt, wP_mIf, wP_mBl, wP_mTru, wP_mNotB, wP_mAndB, wP_mOrB, wP_mNot, wP_mAnd, wP_mOr, wP_mIsi, wP_part, wP_mSl, wP_enum, wP_mZip, wP_mChain, wP_mLc, wE_mE, wE_m2E, wE_m1E, wE_mCE, wE_nil, wE_true, wE_mConsE, wE_mConsS, wE_mConsN, wE_mIfE, wE_mTruE, wE_mBlE, wE_mNotBE, wE_mAndBE, wE_mOrBE, wE_takeF, wE_mLcE, wO_some, wO_ite, wO_getO, if_true, if_false, Bool.false_eq_true, true_and, List.getElem?_cons_zero, List.getElem?_cons_succ, List.set_cons_zero, List.set_cons_succ, r_len1, r_len2, r_len3, wP_mSlS, wE_mSlE, wE_partN, wE_part, wE_mSlEE, wP_dget, wP_din, d_trl, hne, Bool.not_false, i0, i1, d_add, d_eq, d_lt]
    have hsp := spN_cons (lg := lg) (k := k) (a := a) (b := b) (r := r)
    by_cases h1 : a + b = k
    · have c1 : ((a : Int) + (b : Int) == (k : Int)) = true := beq_iff_eq.mpr (by omega)
      by_cases h2 : b < lg
      · rw [if_pos ⟨h1, h2⟩] at hsp
        have c2 : decide ((b : Int) < (lg : Int)) = true := decide_eq_true (by omega)
        rw [hsp]
        simp only [c1, c2, wP_con, wP_getF, wP_getT, wP_m2, wP_m1, wP_mC, wP_mCons, wP_mTup, wP_mLim, wP_mList, wP_mIt, wP_mIf, wP_mBl, wP_mTru, wP_mNotB, wP_mAndB, wP_mOrB, wP_mNot, wP_mAnd, wP_mOr, wP_mIsi, wP_part, wP_mSl, wP_enum, wP_mZip, wP_mChain, wP_mLc, wE_mE, wE_m2E, wE_m1E, wE_mCE, wE_nil, wE_true, wE_mConsE, wE_mConsS, wE_mConsN, wE_mIfE, wE_mTruE, wE_mBlE, wE_mNotBE, wE_mAndBE, wE_mOrBE, wE_takeF, wE_mLcE, wS_mSeq, wS_mNext, wS_bk, wS_ct, wS_mRet, wS_mRetE, wS_mRetN, wS_mSet, wS_mSetE, wS_mSetN, wS_mSetNE, wS_mAsg, wS_mAsgE, wS_mIfS, wS_mIfSE, wS_mFor, wS_mForE, wS_mPar, wS_mApp, wS_mExt, wP_aug, wP_sti, wO_some, wO_ite, wO_getO, if_true, if_false, Bool.false_eq_true, true_and, List.getElem?_cons_zero, List.getElem?_cons_succ, List.set_cons_zero, List.set_cons_succ, r_len1, r_len2, r_len3, wP_mSlS, wE_mSlE, wE_partN, wE_part, wE_mSlEE, wP_dget, wP_din, i0, i1, d_add, d_neg, List.length_cons, List.length_nil, ixN_m1 hlen, set_last]
        refine ⟨ll_small (by decide), .fr (pD (a, b)), ?_⟩
        rw [fD_cons]
        rfl
      · rw [if_neg (fun z => h2 z.2)] at hsp
        have c2 : decide ((b : Int) < (lg : Int)) = false := decide_eq_false (by omega)
        rw [hsp]
        simp only [c1, c2, wP_con, wP_getF, wP_getT, wP_m2, wP_m1, wP_mC, wP_mCons, wP_mTup, wP_mLim, wP_mList, wP_mIt, wP_mIf, wP_mBl, wP_mTru, wP_mNotB, wP_mAndB, wP_mOrB, wP_mNot, wP_mAnd, wP_mOr, wP_mIsi, wP_part, wP_mSl, wP_enum, wP_mZip, wP_mChain, wP_mLc, wE_mE, wE_m2E, wE_m1E, wE_mCE, wE_nil, wE_true, wE_mConsE, wE_mConsS, wE_mConsN, wE_mIfE, wE_mTruE, wE_mBlE, wE_mNotBE, wE_mAndBE, wE_mOrBE, wE_takeF, wE_mLcE, wS_mSeq, wS_mNext, wS_bk, wS_ct, wS_mRet, wS_mRetE, wS_mRetN, wS_mSet, wS_mSetE, wS_mSetN, wS_mSetNE, wS_mAsg, wS_mAsgE, wS_mIfS, wS_mIfSE, wS_mFor, wS_mForE, wS_mPar, wS_mApp, wS_mExt, wP_aug, wP_sti, wO_some, wO_ite, wO_getO, if_true, if_false, Bool.false_eq_true, true_and, List.getElem?_cons_zero, List.getElem?_cons_succ, List.set_cons_zero, List.set_cons_succ, r_len1, r_len2, r_len3, wP_mSlS, wE_mSlE, wE_partN, wE_part, wE_mSlEE, wP_dget, wP_din, List.length_cons, List.length_nil]
        refine ⟨ll_small (by decide), hll, .fr (pD (a, b)), ?_⟩
        rw [fD_cons, fD_cons]
        rfl
    · have c1 : ((a : Int) + (b : Int) == (k : Int)) = false := beq_false_of_ne (by omega)
      rw [if_neg (fun z => h1 z.1)] at hsp
      rw [hsp]
      simp only [c1, wP_con, wP_getF, wP_getT, wP_m2, wP_m1, wP_mC, wP_mCons, wP_mTup, wP_mLim, wP_mList, wP_mIt, wP_mIf, wP_mBl, wP_mTru, wP_mNotB, wP_mAndB, wP_mOrB, wP_mNot, wP_mAnd, wP_mOr, wP_mIsi, wP_part, wP_mSl, wP_enum, wP_mZip, wP_mChain, wP_mLc, wE_mE, wE_m2E, wE_m1E, wE_mCE, wE_nil, wE_true, wE_mConsE, wE_mConsS, wE_mConsN, wE_mIfE, wE_mTruE, wE_mBlE, wE_mNotBE, wE_mAndBE, wE_mOrBE, wE_takeF, wE_mLcE, wS_mSeq, wS_mNext, wS_bk, wS_ct, wS_mRet, wS_mRetE, wS_mRetN, wS_mSet, wS_mSetE, wS_mSetN, wS_mSetNE, wS_mAsg, wS_mAsgE, wS_mIfS, wS_mIfSE, wS_mFor, wS_mForE, wS_mPar, wS_mApp, wS_mExt, wP_aug, wP_sti, wO_some, wO_ite, wO_getO, if_true, if_false, Bool.false_eq_true, true_and, List.getElem?_cons_zero, List.getElem?_cons_succ, List.set_cons_zero, List.set_cons_succ, r_len1, r_len2, r_len3, wP_mSlS, wE_mSlE, wE_partN, wE_part, wE_mSlEE, wP_dget, wP_din, List.length_cons, List.length_nil]
      refine ⟨ll_small (by decide), hll, .fr (pD (a, b)), ?_⟩
      rw [fD_cons, fD_cons]
      rfl
end
theorem sp1_ok {L : Int} {hg lg k : Nat} {lo : Nat → Bool} {f : List Int} (hf : 1 ≤ f.length) (hf2 : f.length ≤ 1000) (hlo : lo k = loudB L f) (hl : (spR (wi lo hg) lg k).length ≤ 1000) (s0 s8 : Sl) :
    wS b_spurts_of_1 [s0, .fr (.int L), .fr (.int (hg : Int)), .fr (.int (lg : Int)), .ow (.list (fD (spR (wi lo hg) lg k))), .fr (.int (lft lo hg k)), .fr (.int (k : Int)), .fr (tI f), s8] (Nx fun ρ => ∃ s6 s7 s8, ρ = [s0, .fr (.int L), .fr (.int (hg : Int)), .fr (.int (lg : Int)), .ow (.list (fD (spR (wi lo hg) lg (k + 1)))), .fr (.int (lft lo hg (k + 1))), s6, s7, s8]) := by
  obtain ⟨_, e1, rfl⟩ := quiet_ok (l := f) hf hf2 L
  rw [quiet_loud hf, ← hlo] at e1
  have e1' : m_is_quiet [tI f, .int L] = some (.bool (!lo k)) := e1
  have hnext : lft lo hg (k + 1) = if lo k = true then (hg : Int) else lft lo hg k - 1 := rfl
  have rest : ∀ v : Int, v - 1 = lft lo hg (k + 1) → wS (mSeq (mAug 5 augSub (mE (fun _ => some (.int 1))))
  (mSeq (mIfS (mBl (m2 ltD (getF 5) (fun _ => some (.int 0)))) (fun ρ => some (.ct ρ)) mNext)
  (mSeq (mSet 8 (mIf (mTru (getT 4)) (m2 ixD (getT 4) (m1 negD (fun _ => some (.int 1)))) (mTup (mCons (fun _ => some (.int 0)) (mCons (fun _ => some (.int 0)) (fun _ => some []))))))
  (mIfS (mAndB (mTru (getT 4)) (mAndB (mBl (m2 eqD (m2 addD (m2 ixD (getF 8) (fun _ => some (.int 0))) (m2 ixD (getF 8) (fun _ => some (.int 1)))) (getF 6))) (mBl (m2 ltD (m2 ixD (getF 8) (fun _ => some (.int 1))) (getF 3))))) (mSti 4 (mE (mTup (mCons (m2 ixD (getF 8) (fun _ => some (.int 0))) (mCons (m2 addD (m2 ixD (getF 8) (fun _ => some (.int 1))) (fun _ => some (.int 1))) (fun _ => some []))))) (m1 negD (fun _ => some (.int 1)))) (mApp 4 (mE (mTup (mCons (getF 6) (mCons (fun _ => some (.int 1)) (fun _ => some []))))))))))
      [s0, .fr (.int L), .fr (.int (hg : Int)), .fr (.int (lg : Int)), .ow (.list (fD (spR (wi lo hg) lg k))), .fr (.int v), .fr (.int (k : Int)), .fr (tI f), s8] (Nx fun ρ => ∃ s6 s7 s8, ρ = [s0, .fr (.int L), .fr (.int (hg : Int)), .fr (.int (lg : Int)), .ow (.list (fD (spR (wi lo hg) lg (k + 1)))), .fr (.int (lft lo hg (k + 1))), s6, s7, s8]) := fun v hv => by
    rw [wS_mSeq, wP_aug]
    simp only [wP_con, wP_getF, wP_getT, wP_m2, wP_m1, wP_mC, wP_mCons, wP_mTup, wP_mLim, wP_mList, wP_mIt, wP_mIf, wP_mBl, wP_mTru, wP_mNotB, wP_mAndB, wP_mOrB, wP_mNot, wP_mAnd, wP_mOr, wP_mIsi, wP_part, wP_mSl, wP_enum, wP_mZip, wP_mChain, wP_mLc, wE_mE, wE_m2E, wE_m1E, wE_mCE, wE_nil, wE_true, wE_mConsE, wE_mConsS, wE_mConsN, wE_mIfE, wE_mTruE, wE_mBlE, wE_mNotBE, wE_mAndBE, wE_mOrBE, wE_takeF, wE_mLcE, wO_some, wO_ite, wO_getO, if_true, if_false, Bool.false_eq_true, true_and, List.getElem?_cons_zero, List.getElem?_cons_succ, List.set_cons_zero, List.set_cons_succ, r_len1, r_len2, r_len3, wP_mSlS, wE_mSlE, wE_partN, wE_part, wE_mSlEE, wP_dget, wP_din, d_augSub, hv]
    rw [wS_mSeq, wS_mIfS]
    simp only [wP_con, wP_getF, wP_getT, wP_m2, wP_m1, wP_mC, wP_mCons, wP_mTup, wP_mLim, wP_mList, wP_mIt, wP_mIf, wP_mBl, wP_mTru, wP_mNotB, wP_mAndB, wP_mOrB, wP_mNot, wP_mAnd, wP_mOr, wP_mIsi, wP_part, wP_mSl, wP_enum, wP_mZip, wP_mChain, wP_mLc, wE_mE, wE_m2E, wE_m1E, wE_mCE, wE_nil, wE_true, wE_mConsE, wE_mConsS, wE_mConsN, wE_mIfE, wE_mTruE, wE_mBlE, wE_mNotBE, wE_mAndBE, wE_mOrBE, wE_takeF, wE_mLcE, wO_some, wO_ite, wO_getO, if_true, if_false, Bool.false_eq_true, true_and, List.getElem?_cons_zero, List.getElem?_cons_succ, List.set_cons_zero, List.set_cons_succ, r_len1, r_len2, r_len3, wP_mSlS, wE_mSlE, wE_partN, wE_part, wE_mSlEE, wP_dget, wP_din, d_lt]
    have hs : spR (wi lo hg) lg (k + 1) = if wi lo hg k = true then spN lg k (spR (wi lo hg) lg k) else spR (wi lo hg) lg k := rfl
    by_cases h : lft lo hg (k + 1) < 0
    · rw [decide_eq_true h]
      have hw : wi lo hg k = false := decide_eq_false (by omega)
      rw [hw, if_neg (fun z => nomatch z)] at hs
      simp only [if_true, wS_ct]
      rw [hs]
      exact ⟨_, _, _, rfl⟩
    · rw [decide_eq_false h]
      have hw : wi lo hg k = true := decide_eq_true (by omega)
      rw [hw, if_pos rfl] at hs
      simp only [Bool.false_eq_true, if_false, wS_mNext]
      rw [hs]
      refine (put_ok hl _ _ _ _ _ _).mono fun o ⟨s8, e⟩ => ?_
      subst e
      exact ⟨_, _, _, rfl⟩
  unfold b_spurts_of_1
  rw [wS_mSeq, wS_mIfS]
  simp only [wP_con, wP_getF, wP_getT, wP_m2, wP_m1, wP_mC, wP_mCons, wP_mTup, wP_mLim, wP_mList, wP_mIt, wP_mIf, wP_mBl, wP_mTru, wP_mNotB, wP_mAndB, wP_mOrB, wP_mNot, wP_mAnd, wP_mOr, wP_mIsi, wP_part, wP_mSl, wP_enum, wP_mZip, wP_mChain, wP_mLc, wE_mE, wE_m2E, wE_m1E, wE_mCE, wE_nil, wE_true, wE_mConsE, wE_mConsS, wE_mConsN, wE_mIfE, wE_mTruE, wE_mBlE, wE_mNotBE, wE_mAndBE, wE_mOrBE, wE_takeF, wE_mLcE, wO_some, wO_ite, wO_getO, if_true, if_false, Bool.false_eq_true, true_and, List.getElem?_cons_zero, List.getElem?_cons_succ, List.set_cons_zero, List.set_cons_succ, r_len1, r_len2, r_len3, wP_mSlS, wE_mSlE, wE_partN, wE_part, wE_mSlEE, wP_dget, wP_din, e1', d_trb, Bool.not_not]
  cases hk : lo k with
  | true =>
    simp only [if_true, wS_mSet, wP_con, wP_getF, wP_getT, wP_m2, wP_m1, wP_mC, wP_mCons, wP_mTup, wP_mLim, wP_mList, wP_mIt, wP_mIf, wP_mBl, wP_mTru, wP_mNotB, wP_mAndB, wP_mOrB, wP_mNot, wP_mAnd, wP_mOr, wP_mIsi, wP_part, wP_mSl, wP_enum, wP_mZip, wP_mChain, wP_mLc, wE_mE, wE_m2E, wE_m1E, wE_mCE, wE_nil, wE_true, wE_mConsE, wE_mConsS, wE_mConsN, wE_mIfE, wE_mTruE, wE_mBlE, wE_mNotBE, wE_mAndBE, wE_mOrBE, wE_takeF, wE_mLcE, wO_some, wO_ite, wO_getO, if_true, if_false, Bool.false_eq_true, true_and, List.getElem?_cons_zero, List.getElem?_cons_succ, List.set_cons_zero, List.set_cons_succ, r_len1, r_len2, r_len3, wP_mSlS, wE_mSlE, wE_partN, wE_part, wE_mSlEE, wP_dget, wP_din, d_add]
    exact rest _ (by rw [hnext, if_pos hk]; omega)
  | false =>
    simp only [Bool.false_eq_true, if_false, wS_mNext]
    exact rest _ (by rw [hnext, if_neg (by rw [hk]; exact fun z => nomatch z)])
def spF (fs : List (List Int)) (L : Int) (hg lg : Nat) : List (Nat × Nat) := (spR (wi (loF L fs) hg) lg fs.length).reverse
theorem spurts_ok {fs : List (List Int)} {L : Int} {hg lg : Nat} (hl : fs.length ≤ 1000) (hf : ∀ f ∈ fs, 1 ≤ f.length ∧ f.length ≤ 1000) : wO (m_spurts_of [.tuple (fs.map tI), .int L, .int (hg : Int), .int (lg : Int)]) fun v => v = .tuple ((spF fs L hg lg).map pD) := by
  refine wO_fun rfl ?_
  simp only [startE, List.map_cons, List.map_nil, List.length_cons, List.length_nil, List.cons_append, List.nil_append, List.replicate]
  unfold b_spurts_of
  refine wS_par ?_
  simp only [wP_con, wP_getF, wP_getT, wP_m2, wP_m1, wP_mC, wP_mCons, wP_mTup, wP_mLim, wP_mList, wP_mIt, wP_mIf, wP_mBl, wP_mTru, wP_mNotB, wP_mAndB, wP_mOrB, wP_mNot, wP_mAnd, wP_mOr, wP_mIsi, wP_part, wP_mSl, wP_enum, wP_mZip, wP_mChain, wP_mLc, wE_mE, wE_m2E, wE_m1E, wE_mCE, wE_nil, wE_true, wE_mConsE, wE_mConsS, wE_mConsN, wE_mIfE, wE_mTruE, wE_mBlE, wE_mNotBE, wE_mAndBE, wE_mOrBE, wE_takeF, wE_mLcE, wO_some, wO_ite, wO_getO, if_true, if_false, Bool.false_eq_true, true_and, List.getElem?_cons_zero, List.getElem?_cons_succ, List.set_cons_zero, List.set_cons_succ, r_len1, r_len2, r_len3, wP_mSlS, wE_mSlE, wE_partN, wE_part, wE_mSlEE, wP_dget, wP_din, d_neg, setAll, SV.sl, List.length_cons, List.length_nil]
  refine ⟨ll_small (by decide), ?_⟩
  refine wS_forS (ds := enumL (fs.map tI)) ?_ (fun k ρ => ∃ s6 s7 s8, ρ = [.fr (.tuple (fs.map tI)), .fr (.int L), .fr (.int (hg : Int)), .fr (.int (lg : Int)), .ow (.list (fD (spR (wi (loF L fs) hg) lg k))), .fr (.int (lft (loF L fs) hg k)), s6, s7, s8]) ⟨_, _, _, rfl⟩ (fun k d ρ hk ⟨s6, s7, s8, e⟩ => ?_) (fun ρ ⟨s6, s7, s8, e⟩ => ?_)
  · simp only [wP_con, wP_getF, wP_getT, wP_m2, wP_m1, wP_mC, wP_mCons, wP_mTup, wP_mLim, wP_mList, wP_mIt, wP_mIf, wP_mBl, wP_mTru, wP_mNotB, wP_mAndB, wP_mOrB, wP_mNot, wP_mAnd, wP_mOr, wP_mIsi, wP_part, wP_mSl, wP_enum, wP_mZip, wP_mChain, wP_mLc, wE_mE, wE_m2E, wE_m1E, wE_mCE, wE_nil, wE_true, wE_mConsE, wE_mConsS, wE_mConsN, wE_mIfE, wE_mTruE, wE_mBlE, wE_mNotBE, wE_mAndBE, wE_mOrBE, wE_takeF, wE_mLcE, wO_some, wO_ite, wO_getO, if_true, if_false, Bool.false_eq_true, true_and, List.getElem?_cons_zero, List.getElem?_cons_succ, List.set_cons_zero, List.set_cons_succ, r_len1, r_len2, r_len3, wP_mSlS, wE_mSlE, wE_partN, wE_part, wE_mSlEE, wP_dget, wP_din, wP_enum, d_itemt]
  · subst e
    obtain ⟨x, hx, rfl⟩ := enum_gen hk
    rw [List.getElem?_map] at hx
    obtain ⟨f, hf1, rfl⟩ := Option.map_eq_some_iff.mp hx
    have hff := hf f (List.mem_of_getElem? hf1)
    have hkl := (List.getElem?_eq_some_iff.mp hf1).1
    simp only [gT, gsCons, List.length_cons, List.length_nil, if_true, Option.bind_some, List.set_cons_zero, List.set_cons_succ, wO_some]
    exact sp1_ok hff.1 hff.2 (loF_get hf1) (by have := spR_len (W := wi (loF L fs) hg) (lg := lg) k; omega) _ _
  · subst e
    rw [enumL_length, List.length_map]
    simp only [wP_con, wP_getF, wP_getT, wP_m2, wP_m1, wP_mC, wP_mCons, wP_mTup, wP_mLim, wP_mList, wP_mIt, wP_mIf, wP_mBl, wP_mTru, wP_mNotB, wP_mAndB, wP_mOrB, wP_mNot, wP_mAnd, wP_mOr, wP_mIsi, wP_part, wP_mSl, wP_enum, wP_mZip, wP_mChain, wP_mLc, wE_mE, wE_m2E, wE_m1E, wE_mCE, wE_nil, wE_true, wE_mConsE, wE_mConsS, wE_mConsN, wE_mIfE, wE_mTruE, wE_mBlE, wE_mNotBE, wE_mAndBE, wE_mOrBE, wE_takeF, wE_mLcE, wS_mSeq, wS_mNext, wS_bk, wS_ct, wS_mRet, wS_mRetE, wS_mRetN, wS_mSet, wS_mSetE, wS_mSetN, wS_mSetNE, wS_mAsg, wS_mAsgE, wS_mIfS, wS_mIfSE, wS_mFor, wS_mForE, wS_mPar, wS_mApp, wS_mExt, wP_aug, wP_sti, wO_some, wO_ite, wO_getO, if_true, if_false, Bool.false_eq_true, true_and, List.getElem?_cons_zero, List.getElem?_cons_succ, List.set_cons_zero, List.set_cons_succ, r_len1, r_len2, r_len3, wP_mSlS, wE_mSlE, wE_partN, wE_part, wE_mSlEE, wP_dget, wP_din, d_tupl, outD]
    rfl
theorem cut_last {xs : List D} : cutD xs none (some (-1)) = xs.dropLast := by
  unfold cutD
  rw [HT.sIx_none]
  have e : HT.sIx xs.length xs.length (some (-1)) = xs.length - 1 := by
    cases xs with
    | nil => rfl
    | cons x r =>
      unfold HT.sIx
      simp only [List.length_cons]
      rw [if_pos (by decide)]
      omega
  rw [e, List.drop_zero, Nat.sub_zero, List.dropLast_eq_take]
theorem cut_gen {α : Type} (g : α → D) {xs : List α} {a b : Nat} (ha : a ≤ xs.length) : cutD (xs.map g) (some (a : Int)) (some (b : Int)) = ((xs.drop a).take (b - a)).map g := by
  unfold cutD
  rw [HT.sIx_nat, HT.sIx_nat, List.length_map, Nat.min_eq_left ha, List.map_take, List.map_drop]
  by_cases hb : b ≤ xs.length
  · rw [Nat.min_eq_left hb]
  · rw [Nat.min_eq_right (by omega), List.take_of_length_le (by rw [List.length_drop, List.length_map]; omega), List.take_of_length_le (by rw [List.length_drop, List.length_map]; omega)]
def ldb (L : Int) : D → Bool
  | .int x => decide (L < x) || decide (x < -L)
  | _ => false
def ldD (L : Int) (d : D) : D := .bool (ldb L d)
def lfD (L : Int) : D → D
  | .tuple xs => .bool ((xs.map (ldb L)).any id)
  | _ => .none
theorem lf_map (L : Int) (fs : List (List Int)) : (fs.map tI).map (lfD L) = (fs.map (loudB L)).map PyData.bool := by
  rw [List.map_map, List.map_map]
  apply List.map_congr_left
  intro f _
  show PyData.bool (((nums f).map (ldb L)).any id) = .bool (loudB L f)
  congr 1
  unfold nums loudB
  rw [List.map_map, List.any_map]
  rfl
def wD (W : Nat → Bool) : D → D
  | .int k => .bool (W k.toNat)
  | _ => .none
theorem w_map (W : Nat → Bool) (n : Nat) : ((List.range n).map fun i => PyData.int (i : Nat)).map (wD W) = (List.range n).map fun k => PyData.bool (W k) := by
  rw [List.map_map]
  congr 1
theorem w_at {W : Nat → Bool} {n k : Nat} (h : k < n) : atI ((List.range n).map fun k => PyData.bool (W k)) (k : Int) = some (.bool (W k)) := by
  refine at_nat ?_
  rw [List.getElem?_map, List.getElem?_range h]; rfl
theorem ls1_ok {W : Nat → Bool} {n lg k : Nat} (hlg : 1 ≤ lg) (hk : k < n) (hn : n ≤ 1000) (s0 s1 s2 s4 s8 s9 s10 : Sl) :
    wS b__law_spurts_1 [s0, s1, s2, .fr (.int (lg : Int)), s4, .fr (.list ((List.range n).map fun k => PyData.bool (W k))), .fr (.list (fD (spR W lg k))), .fr (.int (k : Int)), s8, s9, s10] fun o => ∃ s8, o = .nx [s0, s1, s2, .fr (.int (lg : Int)), s4, .fr (.list ((List.range n).map fun k => PyData.bool (W k))), .fr (.list (fD (spR W lg (k + 1)))), .fr (.int (k : Int)), s8, s9, s10] := by
  have hs : spR W lg (k + 1) = if W k = true then spN lg k (spR W lg k) else spR W lg k := rfl
  have hok := spR_ok (W := W) hlg k
  have hen := spR_end (W := W) hlg k
  have hle := spR_len (W := W) (lg := lg) k
  generalize hl : spR W lg k = l at *
  have al : ∀ {xs ys : List D}, xs.length + ys.length ≤ 5000 → addD (.list xs) (.list ys) = some (.list (xs ++ ys)) := fun hl => d_addl (ll_small (by omega))
  unfold b__law_spurts_1
  rw [wS_mIfS]
  simp only [wP_con, wP_getF, wP_getT, wP_m2, wP_m1, wP_mC, wP_mCons, wP_mTup, wP_mLim, wP_mList, wP_mIt, wP_mIf, wP_mBl, wP_mTru, wP_mNotB, wP_mAndB, wP_mOrB, wP_mNot, wP_mAnd, wP_mOr, wP_mIsi, wP_part, wP_mSl, wP_enum, wP_mZip, wP_mChain, wP_mLc, wE_mE, wE_m2E, wE_m1E, wE_mCE, wE_nil, wE_true, wE_mConsE, wE_mConsS, wE_mConsN, wE_mIfE, wE_mTruE, wE_mBlE, wE_mNotBE, wE_mAndBE, wE_mOrBE, wE_takeF, wE_mLcE, wO_some, wO_ite, wO_getO, if_true, if_false, Bool.false_eq_true, true_and, List.getElem?_cons_zero, List.getElem?_cons_succ, List.set_cons_zero, List.set_cons_succ, r_len1, r_len2, r_len3, wP_mSlS, wE_mSlE, wE_partN, wE_part, wE_mSlEE, wP_dget, wP_din, d_ixl, w_at hk, d_trb]
  cases hw : W k with
  | false =>
    rw [hw, if_neg (fun z => nomatch z)] at hs
    simp only [Bool.false_eq_true, if_false, wS_mNext]
    rw [hs]
    exact ⟨_, rfl⟩
  | true =>
    rw [hw, if_pos rfl] at hs
    rw [hs]
    simp only [if_true]
    have new : fD (spN lg k l) = fD l ++ [pD (k, 1)] → wS (mSet 6 (mIf (mTru (getF 8)) (m2 addD (getF 6) (mList (mLim (mCons (mTup (mCons (getF 7) (mCons (fun _ => some (.int 1)) (fun _ => some [])))) (fun _ => some []))))) (m2 addD (mSl (getF 6) (fun _ => some none) (fun ρ => ((m1 negD (fun _ => some (.int 1))) ρ).bind fun d => partD (some d))) (mList (mLim (mCons (mTup (mCons (m2 ixD (m2 ixD (getF 6) (m1 negD (fun _ => some (.int 1)))) (fun _ => some (.int 0))) (mCons (m2 addD (m2 ixD (m2 ixD (getF 6) (m1 negD (fun _ => some (.int 1)))) (fun _ => some (.int 1))) (fun _ => some (.int 1))) (fun _ => some [])))) (fun _ => some [])))))))
        [s0, s1, s2, .fr (.int (lg : Int)), s4, .fr (.list ((List.range n).map fun k => PyData.bool (W k))), .fr (.list (fD l)), .fr (.int (k : Int)), .fr (.bool true), s9, s10] fun o => ∃ s8, o = .nx [s0, s1, s2, .fr (.int (lg : Int)), s4, .fr (.list ((List.range n).map fun k => PyData.bool (W k))), .fr (.list (fD (spN lg k l))), .fr (.int (k : Int)), s8, s9, s10] := fun e => by
      rw [e]
      simp only [wP_con, wP_getF, wP_getT, wP_m2, wP_m1, wP_mC, wP_mCons, wP_mTup, wP_mLim, wP_mList, wP_mIt, wP_mIf, wP_mBl, wP_mTru, wP_mNotB, wP_mAndB, wP_mOrB, wP_mNot, wP_mAnd, wP_mOr, wP_mIsi, wP_part, wP_mSl, wP_enum, wP_mZip, wP_mChain, wP_mLc, wE_mE, wE_m2E, wE_m1E, wE_mCE, wE_nil, wE_true, wE_mConsE, wE_mConsS, wE_mConsN, wE_mIfE, wE_mTruE, wE_mBlE, wE_mNotBE, wE_mAndBE, wE_mOrBE, wE_takeF, wE_mLcE, wS_mSeq, wS_mNext, wS_bk, wS_ct, wS_mRet, wS_mRetE, wS_mRetN, wS_mSet, wS_mSetE, wS_mSetN, wS_mSetNE, wS_mAsg, wS_mAsgE, wS_mIfS, wS_mIfSE, wS_mFor, wS_mForE, wS_mPar, wS_mApp, wS_mExt, wP_aug, wP_sti, wO_some, wO_ite, wO_getO, if_true, if_false, Bool.false_eq_true, true_and, List.getElem?_cons_zero, List.getElem?_cons_succ, List.set_cons_zero, List.set_cons_succ, r_len1, r_len2, r_len3, wP_mSlS, wE_mSlE, wE_partN, wE_part, wE_mSlEE, wP_dget, wP_din, d_trb, List.length_cons, List.length_nil]
      refine ⟨ll_small (by decide), ll_small (by decide), ?_⟩
      rw [al (by rw [fD_len]; simp only [List.length_cons, List.length_nil]; omega)]
      simp only [wO_some]
      exact ⟨_, rfl⟩
    refine wS_set ?_
    by_cases h0 : k = 0
    · subst h0
      have hl0 : l = [] := List.eq_nil_of_length_eq_zero (by omega)
      subst hl0
      simp only [wP_con, wP_getF, wP_getT, wP_m2, wP_m1, wP_mC, wP_mCons, wP_mTup, wP_mLim, wP_mList, wP_mIt, wP_mIf, wP_mBl, wP_mTru, wP_mNotB, wP_mAndB, wP_mOrB, wP_mNot, wP_mAnd, wP_mOr, wP_mIsi, wP_part, wP_mSl, wP_enum, wP_mZip, wP_mChain, wP_mLc, wE_mE, wE_m2E, wE_m1E, wE_mCE, wE_nil, wE_true, wE_mConsE, wE_mConsS, wE_mConsN, wE_mIfE, wE_mTruE, wE_mBlE, wE_mNotBE, wE_mAndBE, wE_mOrBE, wE_takeF, wE_mLcE, wO_some, wO_ite, wO_getO, if_true, if_false, Bool.false_eq_true, true_and, List.getElem?_cons_zero, List.getElem?_cons_succ, List.set_cons_zero, List.set_cons_succ, r_len1, r_len2, r_len3, wP_mSlS, wE_mSlE, wE_partN, wE_part, wE_mSlEE, wP_dget, wP_din, d_eq, show (((0 : Nat) : Int) == 0) = true from rfl]
      exact new rfl
    · have hk1 : (k : Int) - 1 = ((k - 1 : Nat) : Int) := by omega
      simp only [wP_con, wP_getF, wP_getT, wP_m2, wP_m1, wP_mC, wP_mCons, wP_mTup, wP_mLim, wP_mList, wP_mIt, wP_mIf, wP_mBl, wP_mTru, wP_mNotB, wP_mAndB, wP_mOrB, wP_mNot, wP_mAnd, wP_mOr, wP_mIsi, wP_part, wP_mSl, wP_enum, wP_mZip, wP_mChain, wP_mLc, wE_mE, wE_m2E, wE_m1E, wE_mCE, wE_nil, wE_true, wE_mConsE, wE_mConsS, wE_mConsN, wE_mIfE, wE_mTruE, wE_mBlE, wE_mNotBE, wE_mAndBE, wE_mOrBE, wE_takeF, wE_mLcE, wO_some, wO_ite, wO_getO, if_true, if_false, Bool.false_eq_true, true_and, List.getElem?_cons_zero, List.getElem?_cons_succ, List.set_cons_zero, List.set_cons_succ, r_len1, r_len2, r_len3, wP_mSlS, wE_mSlE, wE_partN, wE_part, wE_mSlEE, wP_dget, wP_din, d_eq, show ((k : Int) == 0) = false from beq_false_of_ne (by omega), d_sub, hk1, d_ixl, w_at (show k - 1 < n by omega)]
      cases hp : W (k - 1) with
      | false =>
        simp only [Bool.not_false, if_true, wP_con, wP_getF, wP_getT, wP_m2, wP_m1, wP_mC, wP_mCons, wP_mTup, wP_mLim, wP_mList, wP_mIt, wP_mIf, wP_mBl, wP_mTru, wP_mNotB, wP_mAndB, wP_mOrB, wP_mNot, wP_mAnd, wP_mOr, wP_mIsi, wP_part, wP_mSl, wP_enum, wP_mZip, wP_mChain, wP_mLc, wE_mE, wE_m2E, wE_m1E, wE_mCE, wE_nil, wE_true, wE_mConsE, wE_mConsS, wE_mConsN, wE_mIfE, wE_mTruE, wE_mBlE, wE_mNotBE, wE_mAndBE, wE_mOrBE, wE_takeF, wE_mLcE, wO_some, wO_ite, wO_getO, if_true, if_false, Bool.false_eq_true, true_and, List.getElem?_cons_zero, List.getElem?_cons_succ, List.set_cons_zero, List.set_cons_succ, r_len1, r_len2, r_len3, wP_mSlS, wE_mSlE, wE_partN, wE_part, wE_mSlEE, wP_dget, wP_din]
        refine new ?_
        rw [hp] at hen
        cases l with
        | nil => rfl
        | cons p r =>
          obtain ⟨a, b⟩ := p
          have hne : ¬ (a + b = k) := fun z => by
            have := hen.mp (And.intro (fun q => nomatch q) z)
            exact nomatch this.2
          rw [spN_cons, if_neg (fun z => hne z.1), fD_cons]
      | true =>
        obtain ⟨hne, hhd⟩ := hen.mpr ⟨by omega, hp⟩
        cases l with
        | nil => exact absurd rfl hne
        | cons p r =>
          obtain ⟨a, b⟩ := p
          have hhd : a + b = k := hhd
          have hok := hok
          have hb3 := hok.2.2.1
          have hsp := spN_cons (lg := lg) (k := k) (a := a) (b := b) (r := r)
          have hla : atI (fD ((a, b) :: r)) (-1) = some (pD (a, b)) := by rw [fD_cons]; exact atI_last _ _
          have i0 : ixD (pD (a, b)) (.int 0) = some (.int (a : Int)) := rfl
          have i1 : ixD (pD (a, b)) (.int 1) = some (.int (b : Int)) := rfl
          simp only [Bool.not_true, Bool.false_eq_true, if_false, wP_con, wP_getF, wP_getT, wP_m2, wP_m1, wP_mC, wP_mCons, wP_mTup, wP_mLim, wP_mList, wP_mIt, wP_mIf, wP_mBl, wP_mTru, wP_mNotB, wP_mAndB, wP_mOrB, wP_mNot, wP_mAnd, wP_mOr, wP_mIsi, wP_part, wP_mSl, wP_enum, wP_mZip, wP_mChain, wP_mLc, wE_mE, wE_m2E, wE_m1E, wE_mCE, wE_nil, wE_true, wE_mConsE, wE_mConsS, wE_mConsN, wE_mIfE, wE_mTruE, wE_mBlE, wE_mNotBE, wE_mAndBE, wE_mOrBE, wE_takeF, wE_mLcE, wO_some, wO_ite, wO_getO, if_true, if_false, Bool.false_eq_true, true_and, List.getElem?_cons_zero, List.getElem?_cons_succ, List.set_cons_zero, List.set_cons_succ, r_len1, r_len2, r_len3, wP_mSlS, wE_mSlE, wE_partN, wE_part, wE_mSlEE, wP_dget, wP_din, d_neg, d_ixl, hla, i1, d_eq]
          by_cases hbl : b = lg
          · rw [show ((b : Int) == (lg : Int)) = true from beq_iff_eq.mpr (by omega)]
            refine new ?_
            rw [hsp, if_neg (fun z => by omega), fD_cons]
          · rw [show ((b : Int) == (lg : Int)) = false from beq_false_of_ne (by omega)]
            rw [if_pos ⟨hhd, by omega⟩] at hsp
            rw [hsp]
            have hcl : cutD (fD ((a, b) :: r)) none (some (-1)) = fD r := by
              rw [cut_last, fD_cons, List.dropLast_concat]
            simp only [wP_con, wP_getF, wP_getT, wP_m2, wP_m1, wP_mC, wP_mCons, wP_mTup, wP_mLim, wP_mList, wP_mIt, wP_mIf, wP_mBl, wP_mTru, wP_mNotB, wP_mAndB, wP_mOrB, wP_mNot, wP_mAnd, wP_mOr, wP_mIsi, wP_part, wP_mSl, wP_enum, wP_mZip, wP_mChain, wP_mLc, wE_mE, wE_m2E, wE_m1E, wE_mCE, wE_nil, wE_true, wE_mConsE, wE_mConsS, wE_mConsN, wE_mIfE, wE_mTruE, wE_mBlE, wE_mNotBE, wE_mAndBE, wE_mOrBE, wE_takeF, wE_mLcE, wS_mSeq, wS_mNext, wS_bk, wS_ct, wS_mRet, wS_mRetE, wS_mRetN, wS_mSet, wS_mSetE, wS_mSetN, wS_mSetNE, wS_mAsg, wS_mAsgE, wS_mIfS, wS_mIfSE, wS_mFor, wS_mForE, wS_mPar, wS_mApp, wS_mExt, wP_aug, wP_sti, wO_some, wO_ite, wO_getO, if_true, if_false, Bool.false_eq_true, true_and, List.getElem?_cons_zero, List.getElem?_cons_succ, List.set_cons_zero, List.set_cons_succ, r_len1, r_len2, r_len3, wP_mSlS, wE_mSlE, wE_partN, wE_part, wE_mSlEE, wP_dget, wP_din, d_trb, d_neg, d_part, d_sll, hcl, d_ixl, hla, i0, i1, d_add, List.length_cons, List.length_nil]
            refine ⟨ll_small (by decide), ll_small (by decide), ?_⟩
            rw [al (by rw [fD_len]; simp only [List.length_cons, List.length_nil] at hle ⊢; omega)]
            simp only [wO_some]
            refine ⟨.fr (.bool false), ?_⟩
            rw [fD_cons]
            rfl
theorem lspurts_ok {fs : List (List Int)} {L : Int} {hg lg : Nat} (hlg : 1 ≤ lg) (hl : fs.length ≤ 1000) (hf : ∀ f ∈ fs, f.length ≤ 1000) : wO (m__law_spurts [.tuple (fs.map tI), .int L, .int (hg : Int), .int (lg : Int)]) fun v => v = .tuple ((spF fs L hg lg).map pD) := by
  refine wO_fun rfl ?_
  simp only [startE, List.map_cons, List.map_nil, List.length_cons, List.length_nil, List.cons_append, List.nil_append, List.replicate]
  unfold b__law_spurts
  refine wS_set ?_
  simp only [wP_con, wP_getF, wP_getT, wP_m2, wP_m1, wP_mC, wP_mCons, wP_mTup, wP_mLim, wP_mList, wP_mIt, wP_mIf, wP_mBl, wP_mTru, wP_mNotB, wP_mAndB, wP_mOrB, wP_mNot, wP_mAnd, wP_mOr, wP_mIsi, wP_part, wP_mSl, wP_enum, wP_mZip, wP_mChain, wP_mLc, wE_mE, wE_m2E, wE_m1E, wE_mCE, wE_nil, wE_true, wE_mConsE, wE_mConsS, wE_mConsN, wE_mIfE, wE_mTruE, wE_mBlE, wE_mNotBE, wE_mAndBE, wE_mOrBE, wE_takeF, wE_mLcE, wO_some, wO_ite, wO_getO, if_true, if_false, Bool.false_eq_true, true_and, List.getElem?_cons_zero, List.getElem?_cons_succ, List.set_cons_zero, List.set_cons_succ, r_len1, r_len2, r_len3, wP_mSlS, wE_mSlE, wE_partN, wE_part, wE_mSlEE, wP_dget, wP_din, d_itemt, List.length_map]
  refine ⟨ll_small (by omega), ?_⟩
  refine wO_lcGo1 (lfD L) (fun d hd => ?_) ?_
  · obtain ⟨f, hfm, rfl⟩ := List.mem_map.mp hd
    have := hf f hfm
    simp only [wipeE, List.set_cons_zero, List.set_cons_succ, wP_con, wP_getF, wP_getT, wP_m2, wP_m1, wP_mC, wP_mCons, wP_mTup, wP_mLim, wP_mList, wP_mIt, wP_mIf, wP_mBl, wP_mTru, wP_mNotB, wP_mAndB, wP_mOrB, wP_mNot, wP_mAnd, wP_mOr, wP_mIsi, wP_part, wP_mSl, wP_enum, wP_mZip, wP_mChain, wP_mLc, wE_mE, wE_m2E, wE_m1E, wE_mCE, wE_nil, wE_true, wE_mConsE, wE_mConsS, wE_mConsN, wE_mIfE, wE_mTruE, wE_mBlE, wE_mNotBE, wE_mAndBE, wE_mOrBE, wE_takeF, wE_mLcE, wO_some, wO_ite, wO_getO, if_true, if_false, Bool.false_eq_true, true_and, List.getElem?_cons_zero, List.getElem?_cons_succ, List.set_cons_zero, List.set_cons_succ, r_len1, r_len2, r_len3, wP_mSlS, wE_mSlE, wE_partN, wE_part, wE_mSlEE, wP_dget, wP_din, tI, d_itemt, nums_len]
    refine ⟨ll_small (by omega), ?_⟩
    refine wO_lcGo1 (ldD L) (fun d hd => ?_) ?_
    · obtain ⟨x, rfl, _⟩ := mem_nums hd
      simp only [wipeE, List.set_cons_zero, List.set_cons_succ, wP_con, wP_getF, wP_getT, wP_m2, wP_m1, wP_mC, wP_mCons, wP_mTup, wP_mLim, wP_mList, wP_mIt, wP_mIf, wP_mBl, wP_mTru, wP_mNotB, wP_mAndB, wP_mOrB, wP_mNot, wP_mAnd, wP_mOr, wP_mIsi, wP_part, wP_mSl, wP_enum, wP_mZip, wP_mChain, wP_mLc, wE_mE, wE_m2E, wE_m1E, wE_mCE, wE_nil, wE_true, wE_mConsE, wE_mConsS, wE_mConsN, wE_mIfE, wE_mTruE, wE_mBlE, wE_mNotBE, wE_mAndBE, wE_mOrBE, wE_takeF, wE_mLcE, wO_some, wO_ite, wO_getO, if_true, if_false, Bool.false_eq_true, true_and, List.getElem?_cons_zero, List.getElem?_cons_succ, List.set_cons_zero, List.set_cons_succ, r_len1, r_len2, r_len3, wP_mSlS, wE_mSlE, wE_partN, wE_part, wE_mSlEE, wP_dget, wP_din, d_gt, d_lt, d_neg, ldD, ldb]
      cases decide (L < x) with
      | true => simp
      | false => simp [wP_m2, wP_getF, wP_m1, d_lt, d_neg, wO_some]
    · have em : (nums f).map (ldD L) = ((nums f).map (ldb L)).map PyData.bool := by rw [List.map_map]; rfl
      rw [em, any_bools]
      simp only [wO_some, lfD]
  rw [lf_map]
  refine wS_set ?_
  simp only [wP_con, wP_getF, wP_getT, wP_m2, wP_m1, wP_mC, wP_mCons, wP_mTup, wP_mLim, wP_mList, wP_mIt, wP_mIf, wP_mBl, wP_mTru, wP_mNotB, wP_mAndB, wP_mOrB, wP_mNot, wP_mAnd, wP_mOr, wP_mIsi, wP_part, wP_mSl, wP_enum, wP_mZip, wP_mChain, wP_mLc, wE_mE, wE_m2E, wE_m1E, wE_mCE, wE_nil, wE_true, wE_mConsE, wE_mConsS, wE_mConsN, wE_mIfE, wE_mTruE, wE_mBlE, wE_mNotBE, wE_mAndBE, wE_mOrBE, wE_takeF, wE_mLcE, wO_some, wO_ite, wO_getO, if_true, if_false, Bool.false_eq_true, true_and, List.getElem?_cons_zero, List.getElem?_cons_succ, List.set_cons_zero, List.set_cons_succ, r_len1, r_len2, r_len3, wP_mSlS, wE_mSlE, wE_partN, wE_part, wE_mSlEE, wP_dget, wP_din, d_lent, List.length_map, d_range (show fs.length < 2 ^ 62 by omega), List.length_range]
  refine ⟨ll_small (by omega), ?_⟩
  refine wO_lcGo1 (wD (wi (loF L fs) hg)) (fun d hd => ?_) ?_
  · obtain ⟨k, rfl, hk⟩ := mem_range_int hd
    have hm : (if (k : Int) - (hg : Int) > 0 then (k : Int) - (hg : Int) else 0) = ((k - hg : Nat) : Int) := by split <;> omega
    have hk1 : (k : Int) + 1 = ((k + 1 : Nat) : Int) := by omega
    simp only [wipeE, List.set_cons_zero, List.set_cons_succ, wP_con, wP_getF, wP_getT, wP_m2, wP_m1, wP_mC, wP_mCons, wP_mTup, wP_mLim, wP_mList, wP_mIt, wP_mIf, wP_mBl, wP_mTru, wP_mNotB, wP_mAndB, wP_mOrB, wP_mNot, wP_mAnd, wP_mOr, wP_mIsi, wP_part, wP_mSl, wP_enum, wP_mZip, wP_mChain, wP_mLc, wE_mE, wE_m2E, wE_m1E, wE_mCE, wE_nil, wE_true, wE_mConsE, wE_mConsS, wE_mConsN, wE_mIfE, wE_mTruE, wE_mBlE, wE_mNotBE, wE_mAndBE, wE_mOrBE, wE_takeF, wE_mLcE, wO_some, wO_ite, wO_getO, if_true, if_false, Bool.false_eq_true, true_and, List.getElem?_cons_zero, List.getElem?_cons_succ, List.set_cons_zero, List.set_cons_succ, r_len1, r_len2, r_len3, wP_mSlS, wE_mSlE, wE_partN, wE_part, wE_mSlEE, wP_dget, wP_din, d_sub, d_max, hm, d_part, d_add, hk1, d_sll]
    rw [cut_gen PyData.bool (by rw [List.length_map]; omega), any_bools]
    simp only [wO_some, wD, Int.toNat_natCast]
    rw [wi_win _ _ _ (by rw [List.length_map]; exact hk)]
    rfl
  rw [w_map]
  refine wS_set ?_
  simp only [wP_con, wP_getF, wP_getT, wP_m2, wP_m1, wP_mC, wP_mCons, wP_mTup, wP_mLim, wP_mList, wP_mIt, wP_mIf, wP_mBl, wP_mTru, wP_mNotB, wP_mAndB, wP_mOrB, wP_mNot, wP_mAnd, wP_mOr, wP_mIsi, wP_part, wP_mSl, wP_enum, wP_mZip, wP_mChain, wP_mLc, wE_mE, wE_m2E, wE_m1E, wE_mCE, wE_nil, wE_true, wE_mConsE, wE_mConsS, wE_mConsN, wE_mIfE, wE_mTruE, wE_mBlE, wE_mNotBE, wE_mAndBE, wE_mOrBE, wE_takeF, wE_mLcE, wO_some, wO_ite, wO_getO, if_true, if_false, Bool.false_eq_true, true_and, List.getElem?_cons_zero, List.getElem?_cons_succ, List.set_cons_zero, List.set_cons_succ, r_len1, r_len2, r_len3, wP_mSlS, wE_mSlE, wE_partN, wE_part, wE_mSlEE, wP_dget, wP_din, List.length_nil]
  refine ⟨ll_small (by decide), ?_⟩
  refine wS_forS (ds := (List.range fs.length).map fun i => PyData.int (i : Nat)) ?_ (fun k ρ => ∃ s7 s8, ρ = [.fr (.tuple (fs.map tI)), .fr (.int L), .fr (.int (hg : Int)), .fr (.int (lg : Int)), .fr (.list ((fs.map (loudB L)).map PyData.bool)), .fr (.list ((List.range fs.length).map fun k => PyData.bool (wi (loF L fs) hg k))), .fr (.list (fD (spR (wi (loF L fs) hg) lg k))), s7, s8, .no, .no]) ⟨_, _, rfl⟩ (fun k d ρ hk ⟨s7, s8, e⟩ => ?_) (fun ρ ⟨s7, s8, e⟩ => ?_)
  · simp only [wP_con, wP_getF, wP_getT, wP_m2, wP_m1, wP_mC, wP_mCons, wP_mTup, wP_mLim, wP_mList, wP_mIt, wP_mIf, wP_mBl, wP_mTru, wP_mNotB, wP_mAndB, wP_mOrB, wP_mNot, wP_mAnd, wP_mOr, wP_mIsi, wP_part, wP_mSl, wP_enum, wP_mZip, wP_mChain, wP_mLc, wE_mE, wE_m2E, wE_m1E, wE_mCE, wE_nil, wE_true, wE_mConsE, wE_mConsS, wE_mConsN, wE_mIfE, wE_mTruE, wE_mBlE, wE_mNotBE, wE_mAndBE, wE_mOrBE, wE_takeF, wE_mLcE, wO_some, wO_ite, wO_getO, if_true, if_false, Bool.false_eq_true, true_and, List.getElem?_cons_zero, List.getElem?_cons_succ, List.set_cons_zero, List.set_cons_succ, r_len1, r_len2, r_len3, wP_mSlS, wE_mSlE, wE_partN, wE_part, wE_mSlEE, wP_dget, wP_din, d_lent, List.length_map, d_range (show fs.length < 2 ^ 62 by omega)]
  · subst e
    have hkl : k < fs.length := by
      have := (List.getElem?_eq_some_iff.mp hk).1
      rwa [List.length_map, List.length_range] at this
    have hd : d = .int (k : Nat) := by
      rw [List.getElem?_map, List.getElem?_range hkl] at hk
      exact (Option.some.inj hk).symm
    subst hd
    rw [wO_some]
    simp only [List.set_cons_zero, List.set_cons_succ]
    refine (ls1_ok hlg hkl hl _ _ _ _ _ _ _).mono fun o ⟨s8, e⟩ => ?_
    subst e
    exact ⟨_, _, rfl⟩
  · subst e
    rw [List.length_map, List.length_range]
    simp only [wP_con, wP_getF, wP_getT, wP_m2, wP_m1, wP_mC, wP_mCons, wP_mTup, wP_mLim, wP_mList, wP_mIt, wP_mIf, wP_mBl, wP_mTru, wP_mNotB, wP_mAndB, wP_mOrB, wP_mNot, wP_mAnd, wP_mOr, wP_mIsi, wP_part, wP_mSl, wP_enum, wP_mZip, wP_mChain, wP_mLc, wE_mE, wE_m2E, wE_m1E, wE_mCE, wE_nil, wE_true, wE_mConsE, wE_mConsS, wE_mConsN, wE_mIfE, wE_mTruE, wE_mBlE, wE_mNotBE, wE_mAndBE, wE_mOrBE, wE_takeF, wE_mLcE, wS_mSeq, wS_mNext, wS_bk, wS_ct, wS_mRet, wS_mRetE, wS_mRetN, wS_mSet, wS_mSetE, wS_mSetN, wS_mSetNE, wS_mAsg, wS_mAsgE, wS_mIfS, wS_mIfSE, wS_mFor, wS_mForE, wS_mPar, wS_mApp, wS_mExt, wP_aug, wP_sti, wO_some, wO_ite, wO_getO, if_true, if_false, Bool.false_eq_true, true_and, List.getElem?_cons_zero, List.getElem?_cons_succ, List.set_cons_zero, List.set_cons_succ, r_len1, r_len2, r_len3, wP_mSlS, wE_mSlE, wE_partN, wE_part, wE_mSlEE, wP_dget, wP_din, d_tupl, outD]
    rfl
theorem wS_forR {mi : Ev → Option (List D)} {mg : D → Ev → Option Ev} {mb n : Ev → Option Out} {ρ : Ev} {Q : Out → Prop} {ds : List D} (hi : wP mi ρ fun x => x = ds) (I : Nat → Ev → Prop) (h0 : I 0 ρ)
    (hs : ∀ i d ρ, ds[i]? = some d → I i ρ → wO (mg d ρ) fun ρ1 => wS mb ρ1 fun o => (∃ ρ, o = .nx ρ ∧ I (i + 1) ρ) ∨ (∃ d ρ, o = .rt d ρ ∧ Q (.rt d ρ))) (he : ∀ ρ, I ds.length ρ → wS n ρ Q) : wS (mSeq (mFor mi mg mb) n) ρ Q := by
  rw [wS_mSeq, wS_mFor]
  refine hi.mono fun x hx => ?_
  subst hx
  refine wS_forGo I 0 h0 (fun i d ρ hd hI => ?_) (fun ρ hI => ?_)
  · rw [Nat.zero_add] at hI ⊢
    obtain ⟨ρ1, h1, h2⟩ := hs i d ρ hd hI
    refine ⟨ρ1, h1, h2.mono fun o ho => ?_⟩
    rcases ho with ⟨ρ, rfl, h⟩ | ⟨d, ρ, rfl, h⟩
    · exact h
    · exact h
  · rw [Nat.zero_add] at hI
    exact he ρ hI
def okE (d : D) : Prop := okG noDict 3 d
def rowI : D → Option (Int × Int)
  | .tuple [.int a, .int c] => some (a, c)
  | _ => none
def stepL (lg free : Int) (d : D) : Option Int := match rowI d with
  | some (a, c) => if free ≤ a ∧ a ≤ 1000000000 ∧ 1 ≤ c ∧ c ≤ lg then some (a + c) else none
  | none => none
def stepP (many lg free : Int) (d : D) : Option Int := match rowI d with
  | some (a, c) => if free ≤ a ∧ a ≤ many - 1 ∧ 1 ≤ c ∧ c ≤ lg ∧ a + c ≤ many then some (a + c) else none
  | none => none
def areS (many lg : Int) : Int → List D → Bool
  | free, [] => decide (free ≤ many)
  | free, d :: r => match stepL lg free d with
    | some f => areS many lg f r
    | none => false
def areP (many lg : Int) : Int → List D → Bool
  | _, [] => true
  | free, d :: r => match stepP many lg free d with
    | some f => areP many lg f r
    | none => false
theorem areS_far {many lg : Int} : ∀ {r : List D} {free : Int}, many < free → areS many lg free r = false
  | [], free, h => decide_eq_false (by omega)
  | d :: r, free, h => by
    unfold areS
    cases hs : stepL lg free d with
    | none => rfl
    | some f =>
      have : many < f := by
        unfold stepL at hs
        cases hr : rowI d with
        | none => rw [hr] at hs; cases hs
        | some p =>
          obtain ⟨a, c⟩ := p
          rw [hr] at hs
          simp only at hs
          split at hs
          · injection hs with hs; omega
          · cases hs
      exact areS_far this
theorem row_of {d : D} {p : Int × Int} (h : rowI d = some p) : isRow d 2 2 = true := by
  unfold rowI at h
  split at h
  · rfl
  · cases h
theorem are_eq {many lg : Int} (hm : many ≤ 1000) : ∀ {r : List D} {free : Int}, free ≤ many → areS many lg free r = ((r.all fun d => isRow d 2 2) && areP many lg free r)
  | [], free, h => by
    show decide (free ≤ many) = _
    rw [decide_eq_true h]; rfl
  | d :: r, free, h => by
    rw [List.all_cons]
    unfold areS areP
    cases hr : rowI d with
    | none =>
      have e1 : stepL lg free d = none := by unfold stepL; rw [hr]
      have e2 : stepP many lg free d = none := by unfold stepP; rw [hr]
      rw [e1, e2]
      simp
    | some p =>
      obtain ⟨a, c⟩ := p
      rw [row_of hr]
      by_cases h1 : free ≤ a ∧ a ≤ many - 1 ∧ 1 ≤ c ∧ c ≤ lg ∧ a + c ≤ many
      · have e1 : stepL lg free d = some (a + c) := by unfold stepL; rw [hr]; exact if_pos ⟨h1.1, by omega, h1.2.2.1, h1.2.2.2.1⟩
        have e2 : stepP many lg free d = some (a + c) := by unfold stepP; rw [hr]; exact if_pos h1
        rw [e1, e2]
        simp only [Bool.true_and]
        exact are_eq hm h1.2.2.2.2
      · have e2 : stepP many lg free d = none := by unfold stepP; rw [hr]; exact if_neg h1
        rw [e2]
        simp only [Bool.and_false]
        cases hs : stepL lg free d with
        | none => rfl
        | some f =>
          simp only
          refine areS_far ?_
          unfold stepL at hs
          rw [hr] at hs
          simp only at hs
          split at hs
          · injection hs with hs; omega
          · cases hs
def aSD (many lg : Int) : D → Bool
  | .tuple xs => areS many lg 0 xs
  | _ => false
def aPD (many lg : Int) : D → Bool
  | .tuple xs => (xs.all fun d => isRow d 2 2) && areP many lg 0 xs
  | _ => false
theorem p9 : powD (.int 10) (.int 9) = some (.int 1000000000) := rfl
theorem isNum_int {d : D} {a b : Int} (h : isNum d a b = true) : ∃ i, d = .int i ∧ a ≤ i ∧ i ≤ b := by
  cases d with
  | int i =>
    simp only [isNum, Bool.and_eq_true, decide_eq_true_eq] at h
    exact ⟨i, rfl, h.1, h.2⟩
  | _ => cases h
theorem rowI_some {d : D} {a c : Int} (h : rowI d = some (a, c)) : d = .tuple [.int a, .int c] := by
  unfold rowI at h
  split at h
  · injection h with h; injection h with h1 h2; subst h1 h2; rfl
  · cases h
theorem stepL_1 {x y : D} {lg free : Int} (h : isNum x free 1000000000 = false) : stepL lg free (.tuple [x, y]) = none := by
  unfold stepL
  cases hr : rowI (.tuple [x, y]) with
  | none => rfl
  | some p =>
    obtain ⟨a, c⟩ := p
    have e := rowI_some hr
    simp only [PyData.tuple.injEq, List.cons.injEq, and_true] at e
    obtain ⟨rfl, rfl⟩ := e
    simp only [isNum, Bool.and_eq_false_iff, decide_eq_false_iff_not] at h
    exact if_neg (fun z => by omega)
theorem stepL_2 {x y : D} {lg free : Int} (h : isNum y 1 lg = false) : stepL lg free (.tuple [x, y]) = none := by
  unfold stepL
  cases hr : rowI (.tuple [x, y]) with
  | none => rfl
  | some p =>
    obtain ⟨a, c⟩ := p
    have e := rowI_some hr
    simp only [PyData.tuple.injEq, List.cons.injEq, and_true] at e
    obtain ⟨rfl, rfl⟩ := e
    simp only [isNum, Bool.and_eq_false_iff, decide_eq_false_iff_not] at h
    exact if_neg (fun z => by omega)
theorem stepP_1 {x y : D} {many lg free : Int} (h : isNum x free (many - 1) = false) : stepP many lg free (.tuple [x, y]) = none := by
  unfold stepP
  cases hr : rowI (.tuple [x, y]) with
  | none => rfl
  | some p =>
    obtain ⟨a, c⟩ := p
    have e := rowI_some hr
    simp only [PyData.tuple.injEq, List.cons.injEq, and_true] at e
    obtain ⟨rfl, rfl⟩ := e
    simp only [isNum, Bool.and_eq_false_iff, decide_eq_false_iff_not] at h
    exact if_neg (fun z => by omega)
theorem stepP_2 {x y : D} {many lg free : Int} (h : isNum y 1 lg = false) : stepP many lg free (.tuple [x, y]) = none := by
  unfold stepP
  cases hr : rowI (.tuple [x, y]) with
  | none => rfl
  | some p =>
    obtain ⟨a, c⟩ := p
    have e := rowI_some hr
    simp only [PyData.tuple.injEq, List.cons.injEq, and_true] at e
    obtain ⟨rfl, rfl⟩ := e
    simp only [isNum, Bool.and_eq_false_iff, decide_eq_false_iff_not] at h
    exact if_neg (fun z => by omega)
theorem las1_ok {d : D} (h : okE d) {lg free : Int} (s0 s1 : Sl) : wS b__law_are_spurts_1 [s0, s1, .fr (.int lg), .fr (.int free), .fr d] fun o => match stepL lg free d with
    | some f => o = .nx [s0, s1, .fr (.int lg), .fr (.int f), .fr d]
    | none => ∃ ρ, o = .rt (.bool false) ρ := by
  unfold b__law_are_spurts_1
  rw [wS_mSeq, wS_mIfS]
  cases d with
  | dict kv => exact absurd h id
  | tuple xs =>
    by_cases h2 : xs.length = 2
    · obtain ⟨x, y, rfl⟩ : ∃ x y, xs = [x, y] := by
        match xs, h2 with
        | [x, y], _ => exact ⟨x, y, rfl⟩
      have hx : noDict x := h.2.2 x (by simp)
      have hy : noDict y := h.2.2 y (by simp)
      obtain ⟨_, e1, rfl⟩ := lnum_ok hx free 1000000000
      obtain ⟨_, e2, rfl⟩ := lnum_ok hy 1 lg
      have len2 : ((((0 + 1 + 1 : Nat) : Int)) == 2) = true := rfl
      cases n1 : isNum x free 1000000000 with
      | false =>
        rw [n1] at e1
        rw [stepL_1 n1]
        simp only [wP_con, wP_getF, wP_getT, wP_m2, wP_m1, wP_mC, wP_mCons, wP_mTup, wP_mLim, wP_mList, wP_mIt, wP_mIf, wP_mBl, wP_mTru, wP_mNotB, wP_mAndB, wP_mOrB, wP_mNot, wP_mAnd, wP_mOr, wP_mIsi, wP_part, wP_mSl, wP_enum, wP_mZip, wP_mChain, wP_mLc, wE_mE, wE_m2E, wE_m1E, wE_mCE, wE_nil, wE_true, wE_mConsE, wE_mConsS, wE_mConsN, wE_mIfE, wE_mTruE, wE_mBlE, wE_mNotBE, wE_mAndBE, wE_mOrBE, wE_takeF, wE_mLcE, wO_some, wO_ite, wO_getO, if_true, if_false, Bool.false_eq_true, true_and, List.getElem?_cons_zero, List.getElem?_cons_succ, List.set_cons_zero, List.set_cons_succ, r_len1, r_len2, r_len3, wP_mSlS, wE_mSlE, wE_partN, wE_part, wE_mSlEE, wP_dget, wP_din, isKd, d_trb, Bool.not_true, d_lent, List.length_cons, List.length_nil, d_ne, d_ixt, at_0, p9, e1, len2, Bool.not_false, wS_mRet]
        exact ⟨_, rfl⟩
      | true =>
        rw [n1] at e1
        cases n2 : isNum y 1 lg with
        | false =>
          rw [n2] at e2
          rw [stepL_2 n2]
          simp only [wP_con, wP_getF, wP_getT, wP_m2, wP_m1, wP_mC, wP_mCons, wP_mTup, wP_mLim, wP_mList, wP_mIt, wP_mIf, wP_mBl, wP_mTru, wP_mNotB, wP_mAndB, wP_mOrB, wP_mNot, wP_mAnd, wP_mOr, wP_mIsi, wP_part, wP_mSl, wP_enum, wP_mZip, wP_mChain, wP_mLc, wE_mE, wE_m2E, wE_m1E, wE_mCE, wE_nil, wE_true, wE_mConsE, wE_mConsS, wE_mConsN, wE_mIfE, wE_mTruE, wE_mBlE, wE_mNotBE, wE_mAndBE, wE_mOrBE, wE_takeF, wE_mLcE, wO_some, wO_ite, wO_getO, if_true, if_false, Bool.false_eq_true, true_and, List.getElem?_cons_zero, List.getElem?_cons_succ, List.set_cons_zero, List.set_cons_succ, r_len1, r_len2, r_len3, wP_mSlS, wE_mSlE, wE_partN, wE_part, wE_mSlEE, wP_dget, wP_din, isKd, d_trb, Bool.not_true, d_lent, List.length_cons, List.length_nil, d_ne, d_ixt, at_0, at_1, p9, e1, e2, len2, Bool.not_false, wS_mRet]
          exact ⟨_, rfl⟩
        | true =>
          rw [n2] at e2
          obtain ⟨a, rfl, a1, a2⟩ := isNum_int n1
          obtain ⟨c, rfl, c1, c2⟩ := isNum_int n2
          have hs : stepL lg free (.tuple [.int a, .int c]) = some (a + c) := if_pos ⟨a1, a2, c1, c2⟩
          rw [hs]
          simp only [wP_con, wP_getF, wP_getT, wP_m2, wP_m1, wP_mC, wP_mCons, wP_mTup, wP_mLim, wP_mList, wP_mIt, wP_mIf, wP_mBl, wP_mTru, wP_mNotB, wP_mAndB, wP_mOrB, wP_mNot, wP_mAnd, wP_mOr, wP_mIsi, wP_part, wP_mSl, wP_enum, wP_mZip, wP_mChain, wP_mLc, wE_mE, wE_m2E, wE_m1E, wE_mCE, wE_nil, wE_true, wE_mConsE, wE_mConsS, wE_mConsN, wE_mIfE, wE_mTruE, wE_mBlE, wE_mNotBE, wE_mAndBE, wE_mOrBE, wE_takeF, wE_mLcE, wS_mSeq, wS_mNext, wS_bk, wS_ct, wS_mRet, wS_mRetE, wS_mRetN, wS_mSet, wS_mSetE, wS_mSetN, wS_mSetNE, wS_mAsg, wS_mAsgE, wS_mIfS, wS_mIfSE, wS_mFor, wS_mForE, wS_mPar, wS_mApp, wS_mExt, wP_aug, wP_sti, wO_some, wO_ite, wO_getO, if_true, if_false, Bool.false_eq_true, true_and, List.getElem?_cons_zero, List.getElem?_cons_succ, List.set_cons_zero, List.set_cons_succ, r_len1, r_len2, r_len3, wP_mSlS, wE_mSlE, wE_partN, wE_part, wE_mSlEE, wP_dget, wP_din, isKd, d_trb, Bool.not_true, d_lent, List.length_cons, List.length_nil, d_ne, d_ixt, at_0, at_1, p9, e1, e2, len2, d_add]
    · have hr : rowI (.tuple xs) = none := by
        unfold rowI
        split
        · rename_i e; injection e with e; subst e; exact absurd rfl h2
        · rfl
      unfold stepL
      rw [hr]
      simp only [wP_con, wP_getF, wP_getT, wP_m2, wP_m1, wP_mC, wP_mCons, wP_mTup, wP_mLim, wP_mList, wP_mIt, wP_mIf, wP_mBl, wP_mTru, wP_mNotB, wP_mAndB, wP_mOrB, wP_mNot, wP_mAnd, wP_mOr, wP_mIsi, wP_part, wP_mSl, wP_enum, wP_mZip, wP_mChain, wP_mLc, wE_mE, wE_m2E, wE_m1E, wE_mCE, wE_nil, wE_true, wE_mConsE, wE_mConsS, wE_mConsN, wE_mIfE, wE_mTruE, wE_mBlE, wE_mNotBE, wE_mAndBE, wE_mOrBE, wE_takeF, wE_mLcE, wO_some, wO_ite, wO_getO, if_true, if_false, Bool.false_eq_true, true_and, List.getElem?_cons_zero, List.getElem?_cons_succ, List.set_cons_zero, List.set_cons_succ, r_len1, r_len2, r_len3, wP_mSlS, wE_mSlE, wE_partN, wE_part, wE_mSlEE, wP_dget, wP_din, isKd, d_trb, Bool.not_true, d_lent, d_ne]
      rw [show (((xs.length : Nat) : Int) == 2) = false from beq_false_of_ne (by omega)]
      simp only [Bool.not_false, if_true, wS_mRet, wP_con]
      exact ⟨_, rfl⟩
  | _ =>
    simp only [wP_con, wP_getF, wP_getT, wP_m2, wP_m1, wP_mC, wP_mCons, wP_mTup, wP_mLim, wP_mList, wP_mIt, wP_mIf, wP_mBl, wP_mTru, wP_mNotB, wP_mAndB, wP_mOrB, wP_mNot, wP_mAnd, wP_mOr, wP_mIsi, wP_part, wP_mSl, wP_enum, wP_mZip, wP_mChain, wP_mLc, wE_mE, wE_m2E, wE_m1E, wE_mCE, wE_nil, wE_true, wE_mConsE, wE_mConsS, wE_mConsN, wE_mIfE, wE_mTruE, wE_mBlE, wE_mNotBE, wE_mAndBE, wE_mOrBE, wE_takeF, wE_mLcE, wO_some, wO_ite, wO_getO, if_true, if_false, Bool.false_eq_true, true_and, List.getElem?_cons_zero, List.getElem?_cons_succ, List.set_cons_zero, List.set_cons_succ, r_len1, r_len2, r_len3, wP_mSlS, wE_mSlE, wE_partN, wE_part, wE_mSlEE, wP_dget, wP_din, isKd, d_trb, Bool.not_false, wS_mRet]
    exact ⟨_, rfl⟩
theorem las_ok {d : D} (h : okG okE 100 d) {many lg : Int} : wO (m__law_are_spurts [d, .int many, .int lg]) fun v => v = .bool (aSD many lg d) := by
  unfold aSD
  refine wO_fun rfl ?_
  simp only [startE, List.map_cons, List.map_nil, List.length_cons, List.length_nil, List.cons_append, List.nil_append, List.replicate]
  unfold b__law_are_spurts
  rw [wS_mSeq, wS_mIfS]
  cases d with
  | dict kv => exact absurd h id
  | tuple xs =>
    simp only [wP_con, wP_getF, wP_getT, wP_m2, wP_m1, wP_mC, wP_mCons, wP_mTup, wP_mLim, wP_mList, wP_mIt, wP_mIf, wP_mBl, wP_mTru, wP_mNotB, wP_mAndB, wP_mOrB, wP_mNot, wP_mAnd, wP_mOr, wP_mIsi, wP_part, wP_mSl, wP_enum, wP_mZip, wP_mChain, wP_mLc, wE_mE, wE_m2E, wE_m1E, wE_mCE, wE_nil, wE_true, wE_mConsE, wE_mConsS, wE_mConsN, wE_mIfE, wE_mTruE, wE_mBlE, wE_mNotBE, wE_mAndBE, wE_mOrBE, wE_takeF, wE_mLcE, wO_some, wO_ite, wO_getO, if_true, if_false, Bool.false_eq_true, true_and, List.getElem?_cons_zero, List.getElem?_cons_succ, List.set_cons_zero, List.set_cons_succ, r_len1, r_len2, r_len3, wP_mSlS, wE_mSlE, wE_partN, wE_part, wE_mSlEE, wP_dget, wP_din, isKd, d_trb, Bool.not_true, wS_mNext]
    refine wS_set ?_
    simp only [wP_con, List.set_cons_zero, List.set_cons_succ]
    refine wS_forR (ds := xs) ?_ (fun i ρ => ∃ f s4, areS many lg 0 xs = areS many lg f (xs.drop i) ∧ ρ = [.fr (.tuple xs), .fr (.int many), .fr (.int lg), .fr (.int f), s4]) ⟨0, .no, rfl, rfl⟩ (fun i d ρ hi ⟨f, s4, hf, e⟩ => ?_) (fun ρ ⟨f, s4, hf, e⟩ => ?_)
    · simp only [wP_con, wP_getF, wP_getT, wP_m2, wP_m1, wP_mC, wP_mCons, wP_mTup, wP_mLim, wP_mList, wP_mIt, wP_mIf, wP_mBl, wP_mTru, wP_mNotB, wP_mAndB, wP_mOrB, wP_mNot, wP_mAnd, wP_mOr, wP_mIsi, wP_part, wP_mSl, wP_enum, wP_mZip, wP_mChain, wP_mLc, wE_mE, wE_m2E, wE_m1E, wE_mCE, wE_nil, wE_true, wE_mConsE, wE_mConsS, wE_mConsN, wE_mIfE, wE_mTruE, wE_mBlE, wE_mNotBE, wE_mAndBE, wE_mOrBE, wE_takeF, wE_mLcE, wO_some, wO_ite, wO_getO, if_true, if_false, Bool.false_eq_true, true_and, List.getElem?_cons_zero, List.getElem?_cons_succ, List.set_cons_zero, List.set_cons_succ, r_len1, r_len2, r_len3, wP_mSlS, wE_mSlE, wE_partN, wE_part, wE_mSlEE, wP_dget, wP_din, d_itemt]
    · subst e
      have hd := h.2.2 d (List.mem_of_getElem? hi)
      rw [List.drop_eq_getElem_cons (List.getElem?_eq_some_iff.mp hi).1, (List.getElem?_eq_some_iff.mp hi).2] at hf
      have hS : areS many lg f (d :: xs.drop (i + 1)) = match stepL lg f d with
        | some f => areS many lg f (xs.drop (i + 1))
        | none => false := rfl
      rw [wO_some]
      simp only [List.set_cons_zero, List.set_cons_succ]
      refine (las1_ok hd _ _).mono fun o ho => ?_
      cases hs : stepL lg f d with
      | none =>
        rw [hs] at ho hS
        obtain ⟨ρ, rfl⟩ := ho
        refine .inr ⟨_, ρ, rfl, ?_⟩
        rw [hf, hS]
        simp only [outD, wO_some]
      | some f' =>
        rw [hs] at ho hS
        subst ho
        exact .inl ⟨_, rfl, f', _, by rw [hf, hS], rfl⟩
    · subst e
      rw [List.drop_length] at hf
      rw [hf]
      simp only [wP_con, wP_getF, wP_getT, wP_m2, wP_m1, wP_mC, wP_mCons, wP_mTup, wP_mLim, wP_mList, wP_mIt, wP_mIf, wP_mBl, wP_mTru, wP_mNotB, wP_mAndB, wP_mOrB, wP_mNot, wP_mAnd, wP_mOr, wP_mIsi, wP_part, wP_mSl, wP_enum, wP_mZip, wP_mChain, wP_mLc, wE_mE, wE_m2E, wE_m1E, wE_mCE, wE_nil, wE_true, wE_mConsE, wE_mConsS, wE_mConsN, wE_mIfE, wE_mTruE, wE_mBlE, wE_mNotBE, wE_mAndBE, wE_mOrBE, wE_takeF, wE_mLcE, wS_mSeq, wS_mNext, wS_bk, wS_ct, wS_mRet, wS_mRetE, wS_mRetN, wS_mSet, wS_mSetE, wS_mSetN, wS_mSetNE, wS_mAsg, wS_mAsgE, wS_mIfS, wS_mIfSE, wS_mFor, wS_mForE, wS_mPar, wS_mApp, wS_mExt, wP_aug, wP_sti, wO_some, wO_ite, wO_getO, if_true, if_false, Bool.false_eq_true, true_and, List.getElem?_cons_zero, List.getElem?_cons_succ, List.set_cons_zero, List.set_cons_succ, r_len1, r_len2, r_len3, wP_mSlS, wE_mSlE, wE_partN, wE_part, wE_mSlEE, wP_dget, wP_din, d_le, outD]
      rfl
  | _ => simp only [wP_con, wP_getF, wP_getT, wP_m2, wP_m1, wP_mC, wP_mCons, wP_mTup, wP_mLim, wP_mList, wP_mIt, wP_mIf, wP_mBl, wP_mTru, wP_mNotB, wP_mAndB, wP_mOrB, wP_mNot, wP_mAnd, wP_mOr, wP_mIsi, wP_part, wP_mSl, wP_enum, wP_mZip, wP_mChain, wP_mLc, wE_mE, wE_m2E, wE_m1E, wE_mCE, wE_nil, wE_true, wE_mConsE, wE_mConsS, wE_mConsN, wE_mIfE, wE_mTruE, wE_mBlE, wE_mNotBE, wE_mAndBE, wE_mOrBE, wE_takeF, wE_mLcE, wS_mSeq, wS_mNext, wS_bk, wS_ct, wS_mRet, wS_mRetE, wS_mRetN, wS_mSet, wS_mSetE, wS_mSetN, wS_mSetNE, wS_mAsg, wS_mAsgE, wS_mIfS, wS_mIfSE, wS_mFor, wS_mForE, wS_mPar, wS_mApp, wS_mExt, wP_aug, wP_sti, wO_some, wO_ite, wO_getO, if_true, if_false, Bool.false_eq_true, true_and, List.getElem?_cons_zero, List.getElem?_cons_succ, List.set_cons_zero, List.set_cons_succ, r_len1, r_len2, r_len3, wP_mSlS, wE_mSlE, wE_partN, wE_part, wE_mSlEE, wP_dget, wP_din, isKd, d_trb, Bool.not_false, outD]
theorem aps1_ok {x y : D} (hx : noDict x) (hy : noDict y) {many lg free : Int} (s0 s6 : Sl) : wS b_are_spurts_1 [s0, .fr (.int many), .fr (.int lg), .fr (.int free), .fr x, .fr y, s6] fun o => match stepP many lg free (.tuple [x, y]) with
    | some f => o = .nx [s0, .fr (.int many), .fr (.int lg), .fr (.int f), .fr x, .fr y, s6]
    | none => ∃ ρ, o = .rt (.bool false) ρ := by
  obtain ⟨_, e1, rfl⟩ := num_ok hx free (many - 1)
  obtain ⟨_, e2, rfl⟩ := num_ok hy 1 lg
  unfold b_are_spurts_1
  rw [wS_mSeq, wS_mIfS]
  cases n1 : isNum x free (many - 1) with
  | false =>
    rw [n1] at e1
    rw [stepP_1 n1]
    simp only [wP_con, wP_getF, wP_getT, wP_m2, wP_m1, wP_mC, wP_mCons, wP_mTup, wP_mLim, wP_mList, wP_mIt, wP_mIf, wP_mBl, wP_mTru, wP_mNotB, wP_mAndB, wP_mOrB, wP_mNot, wP_mAnd, wP_mOr, wP_mIsi, wP_part, wP_mSl, wP_enum, wP_mZip, wP_mChain, wP_mLc, wE_mE, wE_m2E, wE_m1E, wE_mCE, wE_nil, wE_true, wE_mConsE, wE_mConsS, wE_mConsN, wE_mIfE, wE_mTruE, wE_mBlE, wE_mNotBE, wE_mAndBE, wE_mOrBE, wE_takeF, wE_mLcE, wO_some, wO_ite, wO_getO, if_true, if_false, Bool.false_eq_true, true_and, List.getElem?_cons_zero, List.getElem?_cons_succ, List.set_cons_zero, List.set_cons_succ, r_len1, r_len2, r_len3, wP_mSlS, wE_mSlE, wE_partN, wE_part, wE_mSlEE, wP_dget, wP_din, d_sub, e1, d_trb, Bool.not_false, wS_mRet]
    exact ⟨_, rfl⟩
  | true =>
    rw [n1] at e1
    cases n2 : isNum y 1 lg with
    | false =>
      rw [n2] at e2
      rw [stepP_2 n2]
      simp only [wP_con, wP_getF, wP_getT, wP_m2, wP_m1, wP_mC, wP_mCons, wP_mTup, wP_mLim, wP_mList, wP_mIt, wP_mIf, wP_mBl, wP_mTru, wP_mNotB, wP_mAndB, wP_mOrB, wP_mNot, wP_mAnd, wP_mOr, wP_mIsi, wP_part, wP_mSl, wP_enum, wP_mZip, wP_mChain, wP_mLc, wE_mE, wE_m2E, wE_m1E, wE_mCE, wE_nil, wE_true, wE_mConsE, wE_mConsS, wE_mConsN, wE_mIfE, wE_mTruE, wE_mBlE, wE_mNotBE, wE_mAndBE, wE_mOrBE, wE_takeF, wE_mLcE, wO_some, wO_ite, wO_getO, if_true, if_false, Bool.false_eq_true, true_and, List.getElem?_cons_zero, List.getElem?_cons_succ, List.set_cons_zero, List.set_cons_succ, r_len1, r_len2, r_len3, wP_mSlS, wE_mSlE, wE_partN, wE_part, wE_mSlEE, wP_dget, wP_din, d_sub, e1, e2, d_trb, Bool.not_false, Bool.not_true, wS_mRet]
      exact ⟨_, rfl⟩
    | true =>
      rw [n2] at e2
      obtain ⟨a, rfl, a1, a2⟩ := isNum_int n1
      obtain ⟨c, rfl, c1, c2⟩ := isNum_int n2
      have hs : stepP many lg free (.tuple [.int a, .int c]) = if free ≤ a ∧ a ≤ many - 1 ∧ 1 ≤ c ∧ c ≤ lg ∧ a + c ≤ many then some (a + c) else none := rfl
      by_cases g : a + c ≤ many
      · rw [if_pos ⟨a1, a2, c1, c2, g⟩] at hs
        have g2 : decide (many < a + c) = false := decide_eq_false (by omega)
        rw [hs]
        simp only [wP_con, wP_getF, wP_getT, wP_m2, wP_m1, wP_mC, wP_mCons, wP_mTup, wP_mLim, wP_mList, wP_mIt, wP_mIf, wP_mBl, wP_mTru, wP_mNotB, wP_mAndB, wP_mOrB, wP_mNot, wP_mAnd, wP_mOr, wP_mIsi, wP_part, wP_mSl, wP_enum, wP_mZip, wP_mChain, wP_mLc, wE_mE, wE_m2E, wE_m1E, wE_mCE, wE_nil, wE_true, wE_mConsE, wE_mConsS, wE_mConsN, wE_mIfE, wE_mTruE, wE_mBlE, wE_mNotBE, wE_mAndBE, wE_mOrBE, wE_takeF, wE_mLcE, wS_mSeq, wS_mNext, wS_bk, wS_ct, wS_mRet, wS_mRetE, wS_mRetN, wS_mSet, wS_mSetE, wS_mSetN, wS_mSetNE, wS_mAsg, wS_mAsgE, wS_mIfS, wS_mIfSE, wS_mFor, wS_mForE, wS_mPar, wS_mApp, wS_mExt, wP_aug, wP_sti, wO_some, wO_ite, wO_getO, if_true, if_false, Bool.false_eq_true, true_and, List.getElem?_cons_zero, List.getElem?_cons_succ, List.set_cons_zero, List.set_cons_succ, r_len1, r_len2, r_len3, wP_mSlS, wE_mSlE, wE_partN, wE_part, wE_mSlEE, wP_dget, wP_din, d_sub, e1, e2, d_trb, Bool.not_true, d_add, d_gt, g2]
      · rw [if_neg (fun z => g z.2.2.2.2)] at hs
        have g2 : decide (many < a + c) = true := decide_eq_true (by omega)
        rw [hs]
        simp only [wP_con, wP_getF, wP_getT, wP_m2, wP_m1, wP_mC, wP_mCons, wP_mTup, wP_mLim, wP_mList, wP_mIt, wP_mIf, wP_mBl, wP_mTru, wP_mNotB, wP_mAndB, wP_mOrB, wP_mNot, wP_mAnd, wP_mOr, wP_mIsi, wP_part, wP_mSl, wP_enum, wP_mZip, wP_mChain, wP_mLc, wE_mE, wE_m2E, wE_m1E, wE_mCE, wE_nil, wE_true, wE_mConsE, wE_mConsS, wE_mConsN, wE_mIfE, wE_mTruE, wE_mBlE, wE_mNotBE, wE_mAndBE, wE_mOrBE, wE_takeF, wE_mLcE, wO_some, wO_ite, wO_getO, if_true, if_false, Bool.false_eq_true, true_and, List.getElem?_cons_zero, List.getElem?_cons_succ, List.set_cons_zero, List.set_cons_succ, r_len1, r_len2, r_len3, wP_mSlS, wE_mSlE, wE_partN, wE_part, wE_mSlEE, wP_dget, wP_din, d_sub, e1, e2, d_trb, Bool.not_true, d_add, d_gt, g2, wS_mRet]
        exact ⟨_, rfl⟩
def rwB (d : D) : D := .bool (isRow d 2 2)
theorem okE_nd {d : D} (h : okE d) : noDict d := by cases d <;> first | trivial | exact absurd h id
theorem aps_ok {d : D} (h : okG okE 100 d) {many lg : Int} : wO (m_are_spurts [d, .int many, .int lg]) fun v => v = .bool (aPD many lg d) := by
  unfold aPD
  refine wO_fun rfl ?_
  simp only [startE, List.map_cons, List.map_nil, List.length_cons, List.length_nil, List.cons_append, List.nil_append, List.replicate]
  unfold b_are_spurts
  rw [wS_mSeq, wS_mIfS]
  cases d with
  | dict kv => exact absurd h id
  | tuple xs =>
    simp only [wP_con, wP_getF, wP_getT, wP_m2, wP_m1, wP_mC, wP_mCons, wP_mTup, wP_mLim, wP_mList, wP_mIt, wP_mIf, wP_mBl, wP_mTru, wP_mNotB, wP_mAndB, wP_mOrB, wP_mNot, wP_mAnd, wP_mOr, wP_mIsi, wP_part, wP_mSl, wP_enum, wP_mZip, wP_mChain, wP_mLc, wE_mE, wE_m2E, wE_m1E, wE_mCE, wE_nil, wE_true, wE_mConsE, wE_mConsS, wE_mConsN, wE_mIfE, wE_mTruE, wE_mBlE, wE_mNotBE, wE_mAndBE, wE_mOrBE, wE_takeF, wE_mLcE, wO_some, wO_ite, wO_getO, if_true, if_false, Bool.false_eq_true, true_and, List.getElem?_cons_zero, List.getElem?_cons_succ, List.set_cons_zero, List.set_cons_succ, r_len1, r_len2, r_len3, wP_mSlS, wE_mSlE, wE_partN, wE_part, wE_mSlEE, wP_dget, wP_din, isKd, d_trb, Bool.not_true, d_itemt]
    refine ⟨ll_small (by have := h.1; omega), ?_⟩
    refine wO_lcGo1 rwB (fun d hd => ?_) ?_
    · obtain ⟨_, e, rfl⟩ := row_ok (okE_nd (h.2.2 d hd)) 2 2
      simp only [wipeE, List.set_cons_zero, List.set_cons_succ, wP_con, wP_getF, wP_getT, wP_m2, wP_m1, wP_mC, wP_mCons, wP_mTup, wP_mLim, wP_mList, wP_mIt, wP_mIf, wP_mBl, wP_mTru, wP_mNotB, wP_mAndB, wP_mOrB, wP_mNot, wP_mAnd, wP_mOr, wP_mIsi, wP_part, wP_mSl, wP_enum, wP_mZip, wP_mChain, wP_mLc, wE_mE, wE_m2E, wE_m1E, wE_mCE, wE_nil, wE_true, wE_mConsE, wE_mConsS, wE_mConsN, wE_mIfE, wE_mTruE, wE_mBlE, wE_mNotBE, wE_mAndBE, wE_mOrBE, wE_takeF, wE_mLcE, wS_mSeq, wS_mNext, wS_bk, wS_ct, wS_mRet, wS_mRetE, wS_mRetN, wS_mSet, wS_mSetE, wS_mSetN, wS_mSetNE, wS_mAsg, wS_mAsgE, wS_mIfS, wS_mIfSE, wS_mFor, wS_mForE, wS_mPar, wS_mApp, wS_mExt, wP_aug, wP_sti, wO_some, wO_ite, wO_getO, if_true, if_false, Bool.false_eq_true, true_and, List.getElem?_cons_zero, List.getElem?_cons_succ, List.set_cons_zero, List.set_cons_succ, r_len1, r_len2, r_len3, wP_mSlS, wE_mSlE, wE_partN, wE_part, wE_mSlEE, wP_dget, wP_din, e, rwB]
    have em : xs.map rwB = (xs.map fun d => isRow d 2 2).map PyData.bool := by rw [List.map_map]; rfl
    rw [em, all_bools, List.all_map]
    simp only [wO_some, d_trb]
    rw [show (xs.all (id ∘ fun d => isRow d 2 2)) = xs.all fun d => isRow d 2 2 from rfl]
    cases ha : xs.all fun d => isRow d 2 2 with
    | false => simp only [Bool.not_false, if_true, wP_con, wP_getF, wP_getT, wP_m2, wP_m1, wP_mC, wP_mCons, wP_mTup, wP_mLim, wP_mList, wP_mIt, wP_mIf, wP_mBl, wP_mTru, wP_mNotB, wP_mAndB, wP_mOrB, wP_mNot, wP_mAnd, wP_mOr, wP_mIsi, wP_part, wP_mSl, wP_enum, wP_mZip, wP_mChain, wP_mLc, wE_mE, wE_m2E, wE_m1E, wE_mCE, wE_nil, wE_true, wE_mConsE, wE_mConsS, wE_mConsN, wE_mIfE, wE_mTruE, wE_mBlE, wE_mNotBE, wE_mAndBE, wE_mOrBE, wE_takeF, wE_mLcE, wS_mSeq, wS_mNext, wS_bk, wS_ct, wS_mRet, wS_mRetE, wS_mRetN, wS_mSet, wS_mSetE, wS_mSetN, wS_mSetNE, wS_mAsg, wS_mAsgE, wS_mIfS, wS_mIfSE, wS_mFor, wS_mForE, wS_mPar, wS_mApp, wS_mExt, wP_aug, wP_sti, wO_some, wO_ite, wO_getO, if_true, if_false, Bool.false_eq_true, true_and, List.getElem?_cons_zero, List.getElem?_cons_succ, List.set_cons_zero, List.set_cons_succ, r_len1, r_len2, r_len3, wP_mSlS, wE_mSlE, wE_partN, wE_part, wE_mSlEE, wP_dget, wP_din, outD, Bool.false_and]
    | true =>
      simp only [Bool.not_true, Bool.false_eq_true, if_false, wS_mNext, Bool.true_and]
      rw [List.all_eq_true] at ha
      refine wS_set ?_
      simp only [wP_con, List.set_cons_zero, List.set_cons_succ]
      refine wS_forR (ds := xs) ?_ (fun i ρ => ∃ f s4 s5, areP many lg 0 xs = areP many lg f (xs.drop i) ∧ ρ = [.fr (.tuple xs), .fr (.int many), .fr (.int lg), .fr (.int f), s4, s5, .no]) ⟨0, .no, .no, rfl, rfl⟩ (fun i d ρ hi ⟨f, s4, s5, hf, e⟩ => ?_) (fun ρ ⟨f, s4, s5, hf, e⟩ => ?_)
      · simp only [wP_con, wP_getF, wP_getT, wP_m2, wP_m1, wP_mC, wP_mCons, wP_mTup, wP_mLim, wP_mList, wP_mIt, wP_mIf, wP_mBl, wP_mTru, wP_mNotB, wP_mAndB, wP_mOrB, wP_mNot, wP_mAnd, wP_mOr, wP_mIsi, wP_part, wP_mSl, wP_enum, wP_mZip, wP_mChain, wP_mLc, wE_mE, wE_m2E, wE_m1E, wE_mCE, wE_nil, wE_true, wE_mConsE, wE_mConsS, wE_mConsN, wE_mIfE, wE_mTruE, wE_mBlE, wE_mNotBE, wE_mAndBE, wE_mOrBE, wE_takeF, wE_mLcE, wO_some, wO_ite, wO_getO, if_true, if_false, Bool.false_eq_true, true_and, List.getElem?_cons_zero, List.getElem?_cons_succ, List.set_cons_zero, List.set_cons_succ, r_len1, r_len2, r_len3, wP_mSlS, wE_mSlE, wE_partN, wE_part, wE_mSlEE, wP_dget, wP_din, d_itemt]
      · subst e
        have hdm := List.mem_of_getElem? hi
        have hd := h.2.2 d hdm
        have hr := ha d hdm
        obtain ⟨x, y, rfl⟩ : ∃ x y, d = .tuple [x, y] := by
          cases d with
          | tuple ys =>
            simp only [isRow, Bool.and_eq_true, decide_eq_true_eq] at hr
            match ys, hr with
            | [x, y], _ => exact ⟨x, y, rfl⟩
            | [], hr => simp at hr
            | [_], hr => simp at hr
            | _ :: _ :: _ :: _, hr => simp at hr; omega
          | _ => cases hr
        rw [List.drop_eq_getElem_cons (List.getElem?_eq_some_iff.mp hi).1, (List.getElem?_eq_some_iff.mp hi).2] at hf
        have hS : areP many lg f (.tuple [x, y] :: xs.drop (i + 1)) = match stepP many lg f (.tuple [x, y]) with
          | some f => areP many lg f (xs.drop (i + 1))
          | none => false := rfl
        simp only [gT, gsCons, List.length_cons, List.length_nil, if_true, Option.bind_some, List.set_cons_zero, List.set_cons_succ, wO_some]
        refine (aps1_ok (hd.2.2 x (by simp)) (hd.2.2 y (by simp)) _ _).mono fun o ho => ?_
        cases hs : stepP many lg f (.tuple [x, y]) with
        | none =>
          rw [hs] at ho hS
          obtain ⟨ρ, rfl⟩ := ho
          refine .inr ⟨_, ρ, rfl, ?_⟩
          rw [hf, hS]
          simp only [outD, wO_some]
        | some f' =>
          rw [hs] at ho hS
          subst ho
          exact .inl ⟨_, rfl, f', _, _, by rw [hf, hS], rfl⟩
      · subst e
        rw [List.drop_length] at hf
        rw [hf]
        simp only [wP_con, wP_getF, wP_getT, wP_m2, wP_m1, wP_mC, wP_mCons, wP_mTup, wP_mLim, wP_mList, wP_mIt, wP_mIf, wP_mBl, wP_mTru, wP_mNotB, wP_mAndB, wP_mOrB, wP_mNot, wP_mAnd, wP_mOr, wP_mIsi, wP_part, wP_mSl, wP_enum, wP_mZip, wP_mChain, wP_mLc, wE_mE, wE_m2E, wE_m1E, wE_mCE, wE_nil, wE_true, wE_mConsE, wE_mConsS, wE_mConsN, wE_mIfE, wE_mTruE, wE_mBlE, wE_mNotBE, wE_mAndBE, wE_mOrBE, wE_takeF, wE_mLcE, wS_mSeq, wS_mNext, wS_bk, wS_ct, wS_mRet, wS_mRetE, wS_mRetN, wS_mSet, wS_mSetE, wS_mSetN, wS_mSetNE, wS_mAsg, wS_mAsgE, wS_mIfS, wS_mIfSE, wS_mFor, wS_mForE, wS_mPar, wS_mApp, wS_mExt, wP_aug, wP_sti, wO_some, wO_ite, wO_getO, if_true, if_false, Bool.false_eq_true, true_and, List.getElem?_cons_zero, List.getElem?_cons_succ, List.set_cons_zero, List.set_cons_succ, r_len1, r_len2, r_len3, wP_mSlS, wE_mSlE, wE_partN, wE_part, wE_mSlEE, wP_dget, wP_din, outD]
        rfl
  | _ => simp only [wP_con, wP_getF, wP_getT, wP_m2, wP_m1, wP_mC, wP_mCons, wP_mTup, wP_mLim, wP_mList, wP_mIt, wP_mIf, wP_mBl, wP_mTru, wP_mNotB, wP_mAndB, wP_mOrB, wP_mNot, wP_mAnd, wP_mOr, wP_mIsi, wP_part, wP_mSl, wP_enum, wP_mZip, wP_mChain, wP_mLc, wE_mE, wE_m2E, wE_m1E, wE_mCE, wE_nil, wE_true, wE_mConsE, wE_mConsS, wE_mConsN, wE_mIfE, wE_mTruE, wE_mBlE, wE_mNotBE, wE_mAndBE, wE_mOrBE, wE_takeF, wE_mLcE, wS_mSeq, wS_mNext, wS_bk, wS_ct, wS_mRet, wS_mRetE, wS_mRetN, wS_mSet, wS_mSetE, wS_mSetN, wS_mSetNE, wS_mAsg, wS_mAsgE, wS_mIfS, wS_mIfSE, wS_mFor, wS_mForE, wS_mPar, wS_mApp, wS_mExt, wP_aug, wP_sti, wO_some, wO_ite, wO_getO, if_true, if_false, Bool.false_eq_true, true_and, List.getElem?_cons_zero, List.getElem?_cons_succ, List.set_cons_zero, List.set_cons_succ, r_len1, r_len2, r_len3, wP_mSlS, wE_mSlE, wE_partN, wE_part, wE_mSlEE, wP_dget, wP_din, isKd, d_trb, Bool.not_false, outD]
def zer (n : Nat) : List Int := List.replicate n 0
theorem nums_rep {n : Nat} : nums (zer n) = List.replicate n (.int 0) := by
  unfold nums zer
  rw [List.map_replicate]
theorem zt {n : Nat} (hn : n ≤ 100000) : mulD (.tuple [.int 0]) (.int n) = some (.tuple (nums (zer n))) := by
  rw [d_rep (by simp; exact ll_small (by omega)) (by omega), rep1, nums_rep]
def encO : Option (Nat × Nat) → D
  | none => .none
  | some (n, p) => .tuple [.int (n : Int), .int (p : Int)]
theorem at1_yes {i n a b : Nat} (h1 : a ≤ i) (h2 : i < a + b) (s0 : Sl) : wS b_spurt_at_1 [s0, .fr (.int (i : Int)), .fr (.int (n : Int)), .fr (.int (a : Int)), .fr (.int (b : Int))] fun o => ∃ ρ, o = .rt (encO (some (n, i - a))) ρ := by
  unfold b_spurt_at_1
  rw [wS_mIfS]
  have c1 : decide ((a : Int) ≤ (i : Int)) = true := decide_eq_true (by omega)
  have c2 : decide ((i : Int) < (a : Int) + (b : Int)) = true := decide_eq_true (by omega)
  simp only [wP_con, wP_getF, wP_getT, wP_m2, wP_m1, wP_mC, wP_mCons, wP_mTup, wP_mLim, wP_mList, wP_mIt, wP_mIf, wP_mBl, wP_mTru, wP_mNotB, wP_mAndB, wP_mOrB, wP_mNot, wP_mAnd, wP_mOr, wP_mIsi, wP_part, wP_mSl, wP_enum, wP_mZip, wP_mChain, wP_mLc, wE_mE, wE_m2E, wE_m1E, wE_mCE, wE_nil, wE_true, wE_mConsE, wE_mConsS, wE_mConsN, wE_mIfE, wE_mTruE, wE_mBlE, wE_mNotBE, wE_mAndBE, wE_mOrBE, wE_takeF, wE_mLcE, wS_mSeq, wS_mNext, wS_bk, wS_ct, wS_mRet, wS_mRetE, wS_mRetN, wS_mSet, wS_mSetE, wS_mSetN, wS_mSetNE, wS_mAsg, wS_mAsgE, wS_mIfS, wS_mIfSE, wS_mFor, wS_mForE, wS_mPar, wS_mApp, wS_mExt, wP_aug, wP_sti, wO_some, wO_ite, wO_getO, if_true, if_false, Bool.false_eq_true, true_and, List.getElem?_cons_zero, List.getElem?_cons_succ, List.set_cons_zero, List.set_cons_succ, r_len1, r_len2, r_len3, wP_mSlS, wE_mSlE, wE_partN, wE_part, wE_mSlEE, wP_dget, wP_din, d_le, c1, d_add, d_lt, c2, d_sub, List.length_cons, List.length_nil]
  rw [show (i : Int) - (a : Int) = ((i - a : Nat) : Int) by omega]
  exact ⟨ll_small (by decide), _, rfl⟩
theorem at1_no {i n a b : Nat} (h : ¬ (a ≤ i ∧ i < a + b)) (s0 : Sl) : wS b_spurt_at_1 [s0, .fr (.int (i : Int)), .fr (.int (n : Int)), .fr (.int (a : Int)), .fr (.int (b : Int))] fun o => o = .nx [s0, .fr (.int (i : Int)), .fr (.int (n : Int)), .fr (.int (a : Int)), .fr (.int (b : Int))] := by
  unfold b_spurt_at_1
  rw [wS_mIfS]
  by_cases h1 : a ≤ i
  · have c1 : decide ((a : Int) ≤ (i : Int)) = true := decide_eq_true (by omega)
    have c2 : decide ((i : Int) < (a : Int) + (b : Int)) = false := decide_eq_false (by omega)
    simp only [wP_con, wP_getF, wP_getT, wP_m2, wP_m1, wP_mC, wP_mCons, wP_mTup, wP_mLim, wP_mList, wP_mIt, wP_mIf, wP_mBl, wP_mTru, wP_mNotB, wP_mAndB, wP_mOrB, wP_mNot, wP_mAnd, wP_mOr, wP_mIsi, wP_part, wP_mSl, wP_enum, wP_mZip, wP_mChain, wP_mLc, wE_mE, wE_m2E, wE_m1E, wE_mCE, wE_nil, wE_true, wE_mConsE, wE_mConsS, wE_mConsN, wE_mIfE, wE_mTruE, wE_mBlE, wE_mNotBE, wE_mAndBE, wE_mOrBE, wE_takeF, wE_mLcE, wS_mSeq, wS_mNext, wS_bk, wS_ct, wS_mRet, wS_mRetE, wS_mRetN, wS_mSet, wS_mSetE, wS_mSetN, wS_mSetNE, wS_mAsg, wS_mAsgE, wS_mIfS, wS_mIfSE, wS_mFor, wS_mForE, wS_mPar, wS_mApp, wS_mExt, wP_aug, wP_sti, wO_some, wO_ite, wO_getO, if_true, if_false, Bool.false_eq_true, true_and, List.getElem?_cons_zero, List.getElem?_cons_succ, List.set_cons_zero, List.set_cons_succ, r_len1, r_len2, r_len3, wP_mSlS, wE_mSlE, wE_partN, wE_part, wE_mSlEE, wP_dget, wP_din, d_le, c1, d_add, d_lt, c2]
  · have c1 : decide ((a : Int) ≤ (i : Int)) = false := decide_eq_false (by omega)
    simp only [wP_con, wP_getF, wP_getT, wP_m2, wP_m1, wP_mC, wP_mCons, wP_mTup, wP_mLim, wP_mList, wP_mIt, wP_mIf, wP_mBl, wP_mTru, wP_mNotB, wP_mAndB, wP_mOrB, wP_mNot, wP_mAnd, wP_mOr, wP_mIsi, wP_part, wP_mSl, wP_enum, wP_mZip, wP_mChain, wP_mLc, wE_mE, wE_m2E, wE_m1E, wE_mCE, wE_nil, wE_true, wE_mConsE, wE_mConsS, wE_mConsN, wE_mIfE, wE_mTruE, wE_mBlE, wE_mNotBE, wE_mAndBE, wE_mOrBE, wE_takeF, wE_mLcE, wS_mSeq, wS_mNext, wS_bk, wS_ct, wS_mRet, wS_mRetE, wS_mRetN, wS_mSet, wS_mSetE, wS_mSetN, wS_mSetNE, wS_mAsg, wS_mAsgE, wS_mIfS, wS_mIfSE, wS_mFor, wS_mForE, wS_mPar, wS_mApp, wS_mExt, wP_aug, wP_sti, wO_some, wO_ite, wO_getO, if_true, if_false, Bool.false_eq_true, true_and, List.getElem?_cons_zero, List.getElem?_cons_succ, List.set_cons_zero, List.set_cons_succ, r_len1, r_len2, r_len3, wP_mSlS, wE_mSlE, wE_partN, wE_part, wE_mSlEE, wP_dget, wP_din, d_le, c1]
theorem at_ok {L : List (Nat × Nat)} {i : Nat} : wO (m_spurt_at [.tuple (L.map pD), .int (i : Int)]) fun v => v = encO (spAt L 0 i) := by
  refine wO_fun rfl ?_
  simp only [startE, List.map_cons, List.map_nil, List.length_cons, List.length_nil, List.cons_append, List.nil_append, List.replicate]
  unfold b_spurt_at
  refine wS_forR (ds := enumL (L.map pD)) ?_ (fun n ρ => ∃ s2 s3 s4, spAt L 0 i = spAt (L.drop n) n i ∧ ρ = [.fr (.tuple (L.map pD)), .fr (.int (i : Int)), s2, s3, s4]) ⟨.no, .no, .no, rfl, rfl⟩ (fun n d ρ hn ⟨s2, s3, s4, hs, e⟩ => ?_) (fun ρ ⟨s2, s3, s4, hs, e⟩ => ?_)
  · simp only [wP_con, wP_getF, wP_getT, wP_m2, wP_m1, wP_mC, wP_mCons, wP_mTup, wP_mLim, wP_mList, wP_mIt, wP_mIf, wP_mBl, wP_mTru, wP_mNotB, wP_mAndB, wP_mOrB, wP_mNot, wP_mAnd, wP_mOr, wP_mIsi, wP_part, wP_mSl, wP_enum, wP_mZip, wP_mChain, wP_mLc, wE_mE, wE_m2E, wE_m1E, wE_mCE, wE_nil, wE_true, wE_mConsE, wE_mConsS, wE_mConsN, wE_mIfE, wE_mTruE, wE_mBlE, wE_mNotBE, wE_mAndBE, wE_mOrBE, wE_takeF, wE_mLcE, wO_some, wO_ite, wO_getO, if_true, if_false, Bool.false_eq_true, true_and, List.getElem?_cons_zero, List.getElem?_cons_succ, List.set_cons_zero, List.set_cons_succ, r_len1, r_len2, r_len3, wP_mSlS, wE_mSlE, wE_partN, wE_part, wE_mSlEE, wP_dget, wP_din, wP_enum, d_itemt]
  · subst e
    obtain ⟨x, hx, rfl⟩ := enum_gen hn
    rw [List.getElem?_map] at hx
    obtain ⟨p, hp, rfl⟩ := Option.map_eq_some_iff.mp hx
    obtain ⟨a, b⟩ := p
    rw [List.drop_eq_getElem_cons (List.getElem?_eq_some_iff.mp hp).1, (List.getElem?_eq_some_iff.mp hp).2, spAt_cons] at hs
    simp only [pD, gT, gsCons, List.length_cons, List.length_nil, if_true, Option.bind_some, List.set_cons_zero, List.set_cons_succ, wO_some]
    by_cases h : a ≤ i ∧ i < a + b
    · rw [if_pos h] at hs
      refine (at1_yes (n := n) h.1 h.2 _).mono fun o ho => ?_
      obtain ⟨ρ, rfl⟩ := ho
      refine .inr ⟨_, ρ, rfl, ?_⟩
      rw [hs]
      simp only [outD, wO_some]
    · rw [if_neg h] at hs
      refine (at1_no (n := n) h _).mono fun o ho => ?_
      subst ho
      exact .inl ⟨_, rfl, _, _, _, hs, rfl⟩
  · subst e
    rw [enumL_length, List.length_map, List.drop_length] at hs
    rw [hs]
    simp only [wP_con, wP_getF, wP_getT, wP_m2, wP_m1, wP_mC, wP_mCons, wP_mTup, wP_mLim, wP_mList, wP_mIt, wP_mIf, wP_mBl, wP_mTru, wP_mNotB, wP_mAndB, wP_mOrB, wP_mNot, wP_mAnd, wP_mOr, wP_mIsi, wP_part, wP_mSl, wP_enum, wP_mZip, wP_mChain, wP_mLc, wE_mE, wE_m2E, wE_m1E, wE_mCE, wE_nil, wE_true, wE_mConsE, wE_mConsS, wE_mConsN, wE_mIfE, wE_mTruE, wE_mBlE, wE_mNotBE, wE_mAndBE, wE_mOrBE, wE_takeF, wE_mLcE, wS_mSeq, wS_mNext, wS_bk, wS_ct, wS_mRet, wS_mRetE, wS_mRetN, wS_mSet, wS_mSetE, wS_mSetN, wS_mSetNE, wS_mAsg, wS_mAsgE, wS_mIfS, wS_mIfSE, wS_mFor, wS_mForE, wS_mPar, wS_mApp, wS_mExt, wP_aug, wP_sti, wO_some, wO_ite, wO_getO, if_true, if_false, Bool.false_eq_true, true_and, List.getElem?_cons_zero, List.getElem?_cons_succ, List.set_cons_zero, List.set_cons_succ, r_len1, r_len2, r_len3, wP_mSlS, wE_mSlE, wE_partN, wE_part, wE_mSlEE, wP_dget, wP_din, outD]
    rfl
def huF (L : List (Nat × Nat)) (k : Nat) (f : List Int) : List Int := if (spAt L 0 k).isSome = true then f else zer f.length
def hus (L : List (Nat × Nat)) (fs : List (List Int)) : List (List Int) := (List.range fs.length).map fun k => huF L k (fs[k]?.getD [])
theorem hus_take {L : List (Nat × Nat)} {fs : List (List Int)} {k : Nat} {f : List Int} (h : fs[k]? = some f) : (hus L fs).take (k + 1) = (hus L fs).take k ++ [huF L k f] := by
  have hk := (List.getElem?_eq_some_iff.mp h).1
  rw [List.take_add_one]
  unfold hus
  rw [List.getElem?_map, List.getElem?_range hk]
  show _ ++ [huF L k (fs[k]?.getD [])] = _
  rw [h]
  rfl
theorem hushed_ok {L : List (Nat × Nat)} {fs : List (List Int)} (hl : fs.length ≤ 1000) (hf : ∀ f ∈ fs, f.length ≤ 1000) : wO (m_hushed [.tuple (fs.map tI), .tuple (L.map pD)]) fun v => v = .tuple ((hus L fs).map tI) := by
  refine wO_fun rfl ?_
  simp only [startE, List.map_cons, List.map_nil, List.length_cons, List.length_nil, List.cons_append, List.nil_append, List.replicate]
  unfold b_hushed
  refine wS_setN ?_
  simp only [wP_con, wP_getF, wP_getT, wP_m2, wP_m1, wP_mC, wP_mCons, wP_mTup, wP_mLim, wP_mList, wP_mIt, wP_mIf, wP_mBl, wP_mTru, wP_mNotB, wP_mAndB, wP_mOrB, wP_mNot, wP_mAnd, wP_mOr, wP_mIsi, wP_part, wP_mSl, wP_enum, wP_mZip, wP_mChain, wP_mLc, wE_mE, wE_m2E, wE_m1E, wE_mCE, wE_nil, wE_true, wE_mConsE, wE_mConsS, wE_mConsN, wE_mIfE, wE_mTruE, wE_mBlE, wE_mNotBE, wE_mAndBE, wE_mOrBE, wE_takeF, wE_mLcE, wO_some, wO_ite, wO_getO, if_true, if_false, Bool.false_eq_true, true_and, List.getElem?_cons_zero, List.getElem?_cons_succ, List.set_cons_zero, List.set_cons_succ, r_len1, r_len2, r_len3, wP_mSlS, wE_mSlE, wE_partN, wE_part, wE_mSlEE, wP_dget, wP_din, List.length_nil]
  refine ⟨ll_small (by decide), ?_⟩
  refine wS_forS (ds := enumL (fs.map tI)) ?_ (fun k ρ => ∃ s3 s4, ρ = [.fr (.tuple (fs.map tI)), .fr (.tuple (L.map pD)), .ow (.list (((hus L fs).take k).map tI)), s3, s4]) ⟨_, _, rfl⟩ (fun k d ρ hk ⟨s3, s4, e⟩ => ?_) (fun ρ ⟨s3, s4, e⟩ => ?_)
  · simp only [wP_con, wP_getF, wP_getT, wP_m2, wP_m1, wP_mC, wP_mCons, wP_mTup, wP_mLim, wP_mList, wP_mIt, wP_mIf, wP_mBl, wP_mTru, wP_mNotB, wP_mAndB, wP_mOrB, wP_mNot, wP_mAnd, wP_mOr, wP_mIsi, wP_part, wP_mSl, wP_enum, wP_mZip, wP_mChain, wP_mLc, wE_mE, wE_m2E, wE_m1E, wE_mCE, wE_nil, wE_true, wE_mConsE, wE_mConsS, wE_mConsN, wE_mIfE, wE_mTruE, wE_mBlE, wE_mNotBE, wE_mAndBE, wE_mOrBE, wE_takeF, wE_mLcE, wO_some, wO_ite, wO_getO, if_true, if_false, Bool.false_eq_true, true_and, List.getElem?_cons_zero, List.getElem?_cons_succ, List.set_cons_zero, List.set_cons_succ, r_len1, r_len2, r_len3, wP_mSlS, wE_mSlE, wE_partN, wE_part, wE_mSlEE, wP_dget, wP_din, wP_enum, d_itemt]
  · subst e
    obtain ⟨x, hx, rfl⟩ := enum_gen hk
    rw [List.getElem?_map] at hx
    obtain ⟨f, hf1, rfl⟩ := Option.map_eq_some_iff.mp hx
    have hff := hf f (List.mem_of_getElem? hf1)
    obtain ⟨_, e1, rfl⟩ := at_ok (L := L) (i := k)
    have hlen : lenD [tI f] = some (.int (f.length : Nat)) := by unfold tI; rw [d_lent, nums_len]
    simp only [gT, gsCons, List.length_cons, List.length_nil, if_true, Option.bind_some, List.set_cons_zero, List.set_cons_succ, wO_some]
    unfold b_hushed_1
    rw [wS_mApp]
    rw [hus_take hf1]
    have hll : (((hus L fs).take k).map tI).length < LL := Nat.lt_of_le_of_lt (show _ ≤ 1000 by rw [List.length_map, List.length_take]; unfold hus; rw [List.length_map, List.length_range]; omega) (by decide)
    cases hs : spAt L 0 k with
    | none =>
      rw [hs] at e1
      have hh : huF L k f = zer f.length := by unfold huF; rw [hs]; rfl
      simp only [wP_con, wP_getF, wP_getT, wP_m2, wP_m1, wP_mC, wP_mCons, wP_mTup, wP_mLim, wP_mList, wP_mIt, wP_mIf, wP_mBl, wP_mTru, wP_mNotB, wP_mAndB, wP_mOrB, wP_mNot, wP_mAnd, wP_mOr, wP_mIsi, wP_part, wP_mSl, wP_enum, wP_mZip, wP_mChain, wP_mLc, wE_mE, wE_m2E, wE_m1E, wE_mCE, wE_nil, wE_true, wE_mConsE, wE_mConsS, wE_mConsN, wE_mIfE, wE_mTruE, wE_mBlE, wE_mNotBE, wE_mAndBE, wE_mOrBE, wE_takeF, wE_mLcE, wO_some, wO_ite, wO_getO, if_true, if_false, Bool.false_eq_true, true_and, List.getElem?_cons_zero, List.getElem?_cons_succ, List.set_cons_zero, List.set_cons_succ, r_len1, r_len2, r_len3, wP_mSlS, wE_mSlE, wE_partN, wE_part, wE_mSlEE, wP_dget, wP_din, e1, encO, d_isN, isNone, Bool.not_true, hlen, zt (show f.length ≤ 100000 by omega), List.length_cons, List.length_nil]
      refine ⟨ll_small (by decide), hll, .fr (.int (k : Nat)), .fr (tI f), ?_⟩
      rw [hh, List.map_append]
      rfl
    | some p =>
      obtain ⟨n, q⟩ := p
      rw [hs] at e1
      have hh : huF L k f = f := by unfold huF; rw [hs]; rfl
      simp only [wP_con, wP_getF, wP_getT, wP_m2, wP_m1, wP_mC, wP_mCons, wP_mTup, wP_mLim, wP_mList, wP_mIt, wP_mIf, wP_mBl, wP_mTru, wP_mNotB, wP_mAndB, wP_mOrB, wP_mNot, wP_mAnd, wP_mOr, wP_mIsi, wP_part, wP_mSl, wP_enum, wP_mZip, wP_mChain, wP_mLc, wE_mE, wE_m2E, wE_m1E, wE_mCE, wE_nil, wE_true, wE_mConsE, wE_mConsS, wE_mConsN, wE_mIfE, wE_mTruE, wE_mBlE, wE_mNotBE, wE_mAndBE, wE_mOrBE, wE_takeF, wE_mLcE, wO_some, wO_ite, wO_getO, if_true, if_false, Bool.false_eq_true, true_and, List.getElem?_cons_zero, List.getElem?_cons_succ, List.set_cons_zero, List.set_cons_succ, r_len1, r_len2, r_len3, wP_mSlS, wE_mSlE, wE_partN, wE_part, wE_mSlEE, wP_dget, wP_din, e1, encO, d_isN, isNone, Bool.not_false]
      refine ⟨hll, .fr (.int (k : Nat)), .fr (tI f), ?_⟩
      rw [hh, List.map_append]
      rfl
  · subst e
    rw [enumL_length, List.length_map, List.take_of_length_le (by unfold hus; rw [List.length_map, List.length_range]; exact Nat.le_refl _)]
    simp only [wP_con, wP_getF, wP_getT, wP_m2, wP_m1, wP_mC, wP_mCons, wP_mTup, wP_mLim, wP_mList, wP_mIt, wP_mIf, wP_mBl, wP_mTru, wP_mNotB, wP_mAndB, wP_mOrB, wP_mNot, wP_mAnd, wP_mOr, wP_mIsi, wP_part, wP_mSl, wP_enum, wP_mZip, wP_mChain, wP_mLc, wE_mE, wE_m2E, wE_m1E, wE_mCE, wE_nil, wE_true, wE_mConsE, wE_mConsS, wE_mConsN, wE_mIfE, wE_mTruE, wE_mBlE, wE_mNotBE, wE_mAndBE, wE_mOrBE, wE_takeF, wE_mLcE, wS_mSeq, wS_mNext, wS_bk, wS_ct, wS_mRet, wS_mRetE, wS_mRetN, wS_mSet, wS_mSetE, wS_mSetN, wS_mSetNE, wS_mAsg, wS_mAsgE, wS_mIfS, wS_mIfSE, wS_mFor, wS_mForE, wS_mPar, wS_mApp, wS_mExt, wP_aug, wP_sti, wO_some, wO_ite, wO_getO, if_true, if_false, Bool.false_eq_true, true_and, List.getElem?_cons_zero, List.getElem?_cons_succ, List.set_cons_zero, List.set_cons_succ, r_len1, r_len2, r_len3, wP_mSlS, wE_mSlE, wE_partN, wE_part, wE_mSlEE, wP_dget, wP_din, d_tupl, outD]
def ptD (F : List D) : D → D
  | .tuple [.int a, .int c] => .tuple (cutD F (some a) (some (a + c)))
  | _ => .none
theorem parts_ok {L : List (Nat × Nat)} {F : List D} (hl : L.length ≤ 1000) : wO (m_parts_of [.tuple F, .tuple (L.map pD)]) fun v => v = .tuple ((L.map pD).map (ptD F)) := by
  refine wO_fun rfl ?_
  simp only [startE, List.map_cons, List.map_nil, List.length_cons, List.length_nil, List.cons_append, List.nil_append, List.replicate]
  simp only [b_parts_of, wP_con, wP_getF, wP_getT, wP_m2, wP_m1, wP_mC, wP_mCons, wP_mTup, wP_mLim, wP_mList, wP_mIt, wP_mIf, wP_mBl, wP_mTru, wP_mNotB, wP_mAndB, wP_mOrB, wP_mNot, wP_mAnd, wP_mOr, wP_mIsi, wP_part, wP_mSl, wP_enum, wP_mZip, wP_mChain, wP_mLc, wE_mE, wE_m2E, wE_m1E, wE_mCE, wE_nil, wE_true, wE_mConsE, wE_mConsS, wE_mConsN, wE_mIfE, wE_mTruE, wE_mBlE, wE_mNotBE, wE_mAndBE, wE_mOrBE, wE_takeF, wE_mLcE, wS_mSeq, wS_mNext, wS_bk, wS_ct, wS_mRet, wS_mRetE, wS_mRetN, wS_mSet, wS_mSetE, wS_mSetN, wS_mSetNE, wS_mAsg, wS_mAsgE, wS_mIfS, wS_mIfSE, wS_mFor, wS_mForE, wS_mPar, wS_mApp, wS_mExt, wP_aug, wP_sti, wO_some, wO_ite, wO_getO, if_true, if_false, Bool.false_eq_true, true_and, List.getElem?_cons_zero, List.getElem?_cons_succ, List.set_cons_zero, List.set_cons_succ, r_len1, r_len2, r_len3, wP_mSlS, wE_mSlE, wE_partN, wE_part, wE_mSlEE, wP_dget, wP_din, d_itemt, List.length_map]
  refine ⟨ll_small (by omega), ?_⟩
  refine wO_lcGo1 (ptD F) (fun d hd => ?_) ?_
  · obtain ⟨p, _, rfl⟩ := List.mem_map.mp hd
    simp only [pD, wipeE, List.set_cons_zero, List.set_cons_succ, gT, gsCons, List.length_cons, List.length_nil, if_true, Option.bind_some, wP_con, wP_getF, wP_getT, wP_m2, wP_m1, wP_mC, wP_mCons, wP_mTup, wP_mLim, wP_mList, wP_mIt, wP_mIf, wP_mBl, wP_mTru, wP_mNotB, wP_mAndB, wP_mOrB, wP_mNot, wP_mAnd, wP_mOr, wP_mIsi, wP_part, wP_mSl, wP_enum, wP_mZip, wP_mChain, wP_mLc, wE_mE, wE_m2E, wE_m1E, wE_mCE, wE_nil, wE_true, wE_mConsE, wE_mConsS, wE_mConsN, wE_mIfE, wE_mTruE, wE_mBlE, wE_mNotBE, wE_mAndBE, wE_mOrBE, wE_takeF, wE_mLcE, wS_mSeq, wS_mNext, wS_bk, wS_ct, wS_mRet, wS_mRetE, wS_mRetN, wS_mSet, wS_mSetE, wS_mSetN, wS_mSetNE, wS_mAsg, wS_mAsgE, wS_mIfS, wS_mIfSE, wS_mFor, wS_mForE, wS_mPar, wS_mApp, wS_mExt, wP_aug, wP_sti, wO_some, wO_ite, wO_getO, if_true, if_false, Bool.false_eq_true, true_and, List.getElem?_cons_zero, List.getElem?_cons_succ, List.set_cons_zero, List.set_cons_succ, r_len1, r_len2, r_len3, wP_mSlS, wE_mSlE, wE_partN, wE_part, wE_mSlEE, wP_dget, wP_din, d_part, d_add, d_slt, d_tupt, ptD]
  · rw [d_tupl]
    simp only [wO_some, outD]
/-! the dict -/
def entA (n a b : Nat) : List (D × D) := (List.range b).map fun p => (PyData.int ((a + p : Nat) : Int), PyData.tuple [.int (n : Int), .int (p : Int)])
def ents : List (Nat × Nat) → Nat → List (D × D)
  | [], _ => []
  | (a, b) :: r, n => entA n a b ++ ents r (n + 1)
theorem look_app : ∀ {xs ys : List (D × D)} {i : Int}, lookI (xs ++ ys) i = match lookI xs i with | some d => some d | none => lookI ys i
  | [], ys, i => rfl
  | (k, v) :: r, ys, i => by
    rw [List.cons_append]
    cases k with
    | int j =>
      show (if j = i then some v else lookI (r ++ ys) i) = match (if j = i then some v else lookI r i) with | some d => some d | none => lookI ys i
      by_cases h : j = i
      · rw [if_pos h, if_pos h]
      · rw [if_neg h, if_neg h]; exact look_app
    | _ => exact look_app (xs := r)
theorem look_ent (n a : Nat) (i : Nat) : ∀ b, lookI (entA n a b) (i : Int) = if a ≤ i ∧ i < a + b then some (encO (some (n, i - a))) else none
  | 0 => by rw [if_neg (by omega)]; rfl
  | b + 1 => by
    have ih := look_ent n a i b
    unfold entA at ih ⊢
    rw [List.range_succ, List.map_append, look_app, ih]
    by_cases h : a ≤ i ∧ i < a + b
    · rw [if_pos h, if_pos (by omega)]
    · rw [if_neg h]
      show (if ((a + b : Nat) : Int) = (i : Int) then some (PyData.tuple [.int (n : Int), .int (b : Int)]) else none) = _
      by_cases h2 : a + b = i
      · rw [if_pos (by omega), if_pos (by omega)]
        unfold encO
        rw [show i - a = b by omega]
      · rw [if_neg (by omega), if_neg (by omega)]
theorem look_ents (i : Nat) : ∀ (L : List (Nat × Nat)) (n : Nat), lookI (ents L n) (i : Int) = (spAt L n i).map fun x => encO (some x)
  | [], _ => rfl
  | (a, b) :: r, n => by
    show lookI (entA n a b ++ ents r (n + 1)) (i : Int) = _
    rw [look_app, look_ent, spAt_cons]
    by_cases h : a ≤ i ∧ i < a + b
    · rw [if_pos h, if_pos h]; rfl
    · rw [if_neg h, if_neg h]
      exact look_ents i r (n + 1)
theorem ents_snoc : ∀ (L : List (Nat × Nat)) (n a b : Nat), ents (L ++ [(a, b)]) n = ents L n ++ entA (n + L.length) a b
  | [], n, a, b => by
    show entA n a b ++ [] = [] ++ entA (n + 0) a b
    rw [List.append_nil, Nat.add_zero]; rfl
  | (c, d) :: r, n, a, b => by
    show entA n c d ++ ents (r ++ [(a, b)]) (n + 1) = (entA n c d ++ ents r (n + 1)) ++ entA (n + (r.length + 1)) a b
    rw [ents_snoc r, List.append_assoc, show n + 1 + r.length = n + (r.length + 1) by omega]
theorem ents_len {lg : Nat} : ∀ {L : List (Nat × Nat)} {n f : Nat}, srt lg f L → (ents L n).length ≤ lg * L.length
  | [], _, _, _ => Nat.zero_le _
  | (a, b) :: r, n, f, ⟨h1, h2, h3, h4⟩ => by
    have := ents_len (n := n + 1) h4
    show (entA n a b ++ ents r (n + 1)).length ≤ lg * (r.length + 1)
    rw [List.length_append, Nat.mul_add, Nat.mul_one]
    unfold entA
    rw [List.length_map, List.length_range]
    omega
theorem areP_ok {lg many : Nat} : ∀ {L : List (Nat × Nat)} {f : Nat}, srt lg f L → enE f L ≤ many → areP (many : Int) (lg : Int) (f : Int) (L.map pD) = true
  | [], _, _, _ => rfl
  | (a, b) :: r, f, ⟨h1, h2, h3, h4⟩, h => by
    have h5 := srt_le h4
    have h : enE (a + b) r ≤ many := h
    show (match stepP (many : Int) (lg : Int) (f : Int) (pD (a, b)) with
      | some f => areP (many : Int) (lg : Int) f (r.map pD)
      | none => false) = true
    have hs : stepP (many : Int) (lg : Int) (f : Int) (pD (a, b)) = some ((a : Int) + (b : Int)) := if_pos ⟨by omega, by omega, by omega, by omega, by omega⟩
    rw [hs]
    have := areP_ok h4 h
    rw [Int.natCast_add] at this
    exact this
def agD (L : Int) : D → D
  | .int x => .bool (decide (L < abI x))
  | _ => .none
theorem ag_any (L : Int) (l : List Int) : anyD [.list ((nums l).map (agD L))] = some (.bool (loudB L l)) := by
  have em : (nums l).map (agD L) = (l.map fun x => decide (L < abI x)).map PyData.bool := by
    unfold nums
    rw [List.map_map, List.map_map]
    rfl
  rw [em, any_bools, List.any_map]
  congr 2
  unfold loudB
  congr 1
  funext x
  show decide (L < abI x) = (decide (L < x) || decide (x < -L))
  unfold abI
  by_cases h1 : L < x
  · rw [decide_eq_true h1, Bool.true_or, decide_eq_true (by split <;> omega)]
  · rw [decide_eq_false h1, Bool.false_or]
    congr 1
    exact propext (by split <;> omega)
theorem wi_loud {lo : Nat → Bool} {hg k : Nat} (h : lo k = true) : wi lo hg k = true := by
  unfold wi
  rw [decide_eq_true]
  show (0 : Int) ≤ if lo k = true then (hg : Int) else lft lo hg k - 1
  rw [if_pos h]
  omega
theorem same_encO (o : Option (Nat × Nat)) : m__law_same [encO o, encO o] = some (.bool true) := by
  cases o with
  | none => exact same_ok (d := .none) trivial
  | some p => exact same_nums (xs := [(p.1 : Int), (p.2 : Int)]) (by simp)
theorem fr_at {fs : List (List Int)} {k : Nat} {f : List Int} (h : fs[k]? = some f) : ixD (.tuple (fs.map tI)) (.int (k : Int)) = some (tI f) := by
  rw [d_ixt]
  exact at_nat (by rw [List.getElem?_map, h]; rfl)
theorem law2_ok {fs : List (List Int)} {Sp : List (Nat × Nat)} {L : Int} {k : Nat} {f : List Int} {es : List (D × D)} (hf : fs[k]? = some f) (hfl : f.length ≤ 1000) (hes : lookI es (k : Int) = (spAt Sp 0 k).map fun x => encO (some x)) (hcov : loudB L f = true → (spAt Sp 0 k).isSome = true) (s0 s1 s2 s3 s5 s6 s10 s11 s13 s14 s15 s16 s17 s18 s19 s20 : Sl) :
    wS b_law_2 [s0, s1, s2, s3, .fr (.int L), s5, s6, .fr (.tuple (fs.map tI)), .fr (.tuple (Sp.map pD)), .ow (.dict es), s10, s11, .fr (.int (k : Int)), s13, s14, s15, s16, s17, s18, s19, s20] fun o => ∃ s13, o = .nx [s0, s1, s2, s3, .fr (.int L), s5, s6, .fr (.tuple (fs.map tI)), .fr (.tuple (Sp.map pD)), .ow (.dict es), s10, s11, .fr (.int (k : Int)), s13, s14, s15, s16, s17, s18, s19, s20] := by
  obtain ⟨_, e1, rfl⟩ := at_ok (L := Sp) (i := k)
  unfold b_law_2
  refine wS_set ?_
  simp only [wP_con, wP_getF, wP_getT, wP_m2, wP_m1, wP_mC, wP_mCons, wP_mTup, wP_mLim, wP_mList, wP_mIt, wP_mIf, wP_mBl, wP_mTru, wP_mNotB, wP_mAndB, wP_mOrB, wP_mNot, wP_mAnd, wP_mOr, wP_mIsi, wP_part, wP_mSl, wP_enum, wP_mZip, wP_mChain, wP_mLc, wE_mE, wE_m2E, wE_m1E, wE_mCE, wE_nil, wE_true, wE_mConsE, wE_mConsS, wE_mConsN, wE_mIfE, wE_mTruE, wE_mBlE, wE_mNotBE, wE_mAndBE, wE_mOrBE, wE_takeF, wE_mLcE, wO_some, wO_ite, wO_getO, if_true, if_false, Bool.false_eq_true, true_and, List.getElem?_cons_zero, List.getElem?_cons_succ, List.set_cons_zero, List.set_cons_succ, r_len1, r_len2, r_len3, wP_mSlS, wE_mSlE, wE_partN, wE_part, wE_mSlEE, wP_dget, wP_din, fr_at hf, tI, d_itemt, nums_len]
  refine ⟨ll_small (by omega), ?_⟩
  refine wO_lcGo1 (agD L) (fun d hd => ?_) ?_
  · obtain ⟨x, rfl, _⟩ := mem_nums hd
    simp only [wipeE, List.set_cons_zero, List.set_cons_succ, wP_con, wP_getF, wP_getT, wP_m2, wP_m1, wP_mC, wP_mCons, wP_mTup, wP_mLim, wP_mList, wP_mIt, wP_mIf, wP_mBl, wP_mTru, wP_mNotB, wP_mAndB, wP_mOrB, wP_mNot, wP_mAnd, wP_mOr, wP_mIsi, wP_part, wP_mSl, wP_enum, wP_mZip, wP_mChain, wP_mLc, wE_mE, wE_m2E, wE_m1E, wE_mCE, wE_nil, wE_true, wE_mConsE, wE_mConsS, wE_mConsN, wE_mIfE, wE_mTruE, wE_mBlE, wE_mNotBE, wE_mAndBE, wE_mOrBE, wE_takeF, wE_mLcE, wO_some, wO_ite, wO_getO, if_true, if_false, Bool.false_eq_true, true_and, List.getElem?_cons_zero, List.getElem?_cons_succ, List.set_cons_zero, List.set_cons_succ, r_len1, r_len2, r_len3, wP_mSlS, wE_mSlE, wE_partN, wE_part, wE_mSlEE, wP_dget, wP_din, d_abs, d_gt, agD, abI]
    try rfl
  rw [ag_any]
  simp only [wO_some, List.set_cons_zero, List.set_cons_succ]
  refine wS_chk1 ?_ ⟨_, rfl⟩
  have hg : ((spAt Sp 0 k).map fun x => encO (some x)).getD .none = encO (spAt Sp 0 k) := by cases spAt Sp 0 k <;> rfl
  have hsm : ((spAt Sp 0 k).map fun x => encO (some x)).isSome = (spAt Sp 0 k).isSome := by cases spAt Sp 0 k <;> rfl
  simp only [wP_con, wP_getF, wP_getT, wP_m2, wP_m1, wP_mC, wP_mCons, wP_mTup, wP_mLim, wP_mList, wP_mIt, wP_mIf, wP_mBl, wP_mTru, wP_mNotB, wP_mAndB, wP_mOrB, wP_mNot, wP_mAnd, wP_mOr, wP_mIsi, wP_part, wP_mSl, wP_enum, wP_mZip, wP_mChain, wP_mLc, wE_mE, wE_m2E, wE_m1E, wE_mCE, wE_nil, wE_true, wE_mConsE, wE_mConsS, wE_mConsN, wE_mIfE, wE_mTruE, wE_mBlE, wE_mNotBE, wE_mAndBE, wE_mOrBE, wE_takeF, wE_mLcE, wO_some, wO_ite, wO_getO, if_true, if_false, Bool.false_eq_true, true_and, List.getElem?_cons_zero, List.getElem?_cons_succ, List.set_cons_zero, List.set_cons_succ, r_len1, r_len2, r_len3, wP_mSlS, wE_mSlE, wE_partN, wE_part, wE_mSlEE, wP_dget, wP_din, e1, hes, hg, same_encO, d_trb, Bool.not_true]
  cases hl : loudB L f with
  | false => simp only [Bool.false_eq_true, if_false]
  | true =>
    simp only [if_true, wP_con, wP_getF, wP_getT, wP_m2, wP_m1, wP_mC, wP_mCons, wP_mTup, wP_mLim, wP_mList, wP_mIt, wP_mIf, wP_mBl, wP_mTru, wP_mNotB, wP_mAndB, wP_mOrB, wP_mNot, wP_mAnd, wP_mOr, wP_mIsi, wP_part, wP_mSl, wP_enum, wP_mZip, wP_mChain, wP_mLc, wE_mE, wE_m2E, wE_m1E, wE_mCE, wE_nil, wE_true, wE_mConsE, wE_mConsS, wE_mConsN, wE_mIfE, wE_mTruE, wE_mBlE, wE_mNotBE, wE_mAndBE, wE_mOrBE, wE_takeF, wE_mLcE, wO_some, wO_ite, wO_getO, if_true, if_false, Bool.false_eq_true, true_and, List.getElem?_cons_zero, List.getElem?_cons_succ, List.set_cons_zero, List.set_cons_succ, r_len1, r_len2, r_len3, wP_mSlS, wE_mSlE, wE_partN, wE_part, wE_mSlEE, wP_dget, wP_din]
    rw [hsm, hcov hl]
    rfl
theorem due_at {Sp : List (Nat × Nat)} {n a b : Nat} (h : Sp[n]? = some (a, b)) : ixD (.tuple (Sp.map pD)) (.int (n : Int)) = some (pD (a, b)) := by
  rw [d_ixt]
  exact at_nat (by rw [List.getElem?_map, h]; rfl)
theorem law3_ok {Sp : List (Nat × Nat)} {n a b p : Nat} {es : List (D × D)} (h : Sp[n]? = some (a, b)) (hn : lookI es ((a + p : Nat) : Int) = none) (hl : es.length ≤ 5000) (s0 s1 s2 s3 s4 s5 s6 s7 s12 s13 s14 s15 s16 s17 s18 s19 s20 : Sl) :
    wS b_law_3 [s0, s1, s2, s3, s4, s5, s6, s7, .fr (.tuple (Sp.map pD)), .ow (.dict es), .fr (.int (n : Int)), .fr (.int (p : Int)), s12, s13, s14, s15, s16, s17, s18, s19, s20] fun o => o = .nx [s0, s1, s2, s3, s4, s5, s6, s7, .fr (.tuple (Sp.map pD)), .ow (.dict (es ++ [(.int ((a + p : Nat) : Int), .tuple [.int (n : Int), .int (p : Int)])])), .fr (.int (n : Int)), .fr (.int (p : Int)), s12, s13, s14, s15, s16, s17, s18, s19, s20] := by
  have i0 : ixD (pD (a, b)) (.int 0) = some (.int (a : Int)) := rfl
  have hk : (a : Int) + (p : Int) = ((a + p : Nat) : Int) := by omega
  have h1 : wP (mTup (mCons (getF 10) (mCons (getF 11) (fun _ => some [])))) [s0, s1, s2, s3, s4, s5, s6, s7, .fr (.tuple (Sp.map pD)), .ow (.dict es), .fr (.int (n : Int)), .fr (.int (p : Int)), s12, s13, s14, s15, s16, s17, s18, s19, s20] fun v => v = .tuple [.int (n : Int), .int (p : Int)] := by
    simp only [wP_con, wP_getF, wP_getT, wP_m2, wP_m1, wP_mC, wP_mCons, wP_mTup, wP_mLim, wP_mList, wP_mIt, wP_mIf, wP_mBl, wP_mTru, wP_mNotB, wP_mAndB, wP_mOrB, wP_mNot, wP_mAnd, wP_mOr, wP_mIsi, wP_part, wP_mSl, wP_enum, wP_mZip, wP_mChain, wP_mLc, wE_mE, wE_m2E, wE_m1E, wE_mCE, wE_nil, wE_true, wE_mConsE, wE_mConsS, wE_mConsN, wE_mIfE, wE_mTruE, wE_mBlE, wE_mNotBE, wE_mAndBE, wE_mOrBE, wE_takeF, wE_mLcE, wO_some, wO_ite, wO_getO, if_true, if_false, Bool.false_eq_true, true_and, List.getElem?_cons_zero, List.getElem?_cons_succ, List.set_cons_zero, List.set_cons_succ, r_len1, r_len2, r_len3, wP_mSlS, wE_mSlE, wE_partN, wE_part, wE_mSlEE, wP_dget, wP_din, List.length_cons, List.length_nil]
    exact ⟨ll_small (by decide), trivial⟩
  have h2 : wP (m2 addD (m2 ixD (m2 ixD (getF 8) (getF 10)) (fun _ => some (.int 0))) (getF 11)) [s0, s1, s2, s3, s4, s5, s6, s7, .fr (.tuple (Sp.map pD)), .ow (.dict es), .fr (.int (n : Int)), .fr (.int (p : Int)), s12, s13, s14, s15, s16, s17, s18, s19, s20] fun v => v = .int ((a + p : Nat) : Int) := by
    simp only [wP_con, wP_getF, wP_getT, wP_m2, wP_m1, wP_mC, wP_mCons, wP_mTup, wP_mLim, wP_mList, wP_mIt, wP_mIf, wP_mBl, wP_mTru, wP_mNotB, wP_mAndB, wP_mOrB, wP_mNot, wP_mAnd, wP_mOr, wP_mIsi, wP_part, wP_mSl, wP_enum, wP_mZip, wP_mChain, wP_mLc, wE_mE, wE_m2E, wE_m1E, wE_mCE, wE_nil, wE_true, wE_mConsE, wE_mConsS, wE_mConsN, wE_mIfE, wE_mTruE, wE_mBlE, wE_mNotBE, wE_mAndBE, wE_mOrBE, wE_takeF, wE_mLcE, wO_some, wO_ite, wO_getO, if_true, if_false, Bool.false_eq_true, true_and, List.getElem?_cons_zero, List.getElem?_cons_succ, List.set_cons_zero, List.set_cons_succ, r_len1, r_len2, r_len3, wP_mSlS, wE_mSlE, wE_partN, wE_part, wE_mSlEE, wP_dget, wP_din, due_at h, i0, d_add, hk]
  obtain ⟨_, h1, rfl⟩ := h1
  obtain ⟨_, h2, rfl⟩ := h2
  unfold b_law_3
  exact wS_dput h1 h2 rfl hn (Nat.lt_of_le_of_lt hl (by decide)) rfl
theorem entA_succ (n a p : Nat) : entA n a (p + 1) = entA n a p ++ [(.int ((a + p : Nat) : Int), .tuple [.int (n : Int), .int (p : Int)])] := by
  unfold entA
  rw [List.range_succ, List.map_append]
  rfl
theorem law4_ok {Sp : List (Nat × Nat)} {n a b : Nat} {es : List (D × D)} (h : Sp[n]? = some (a, b)) (hb : b ≤ 1000) (hn : ∀ i : Nat, a ≤ i → lookI es (i : Int) = none) (hl : es.length ≤ 2000) (s0 s1 s2 s3 s4 s5 s6 s7 s11 s12 s13 s14 s15 s16 s17 s18 s19 s20 : Sl) :
    wS b_law_4 [s0, s1, s2, s3, s4, s5, s6, s7, .fr (.tuple (Sp.map pD)), .ow (.dict es), .fr (.int (n : Int)), s11, s12, s13, s14, s15, s16, s17, s18, s19, s20] fun o => ∃ s11, o = .nx [s0, s1, s2, s3, s4, s5, s6, s7, .fr (.tuple (Sp.map pD)), .ow (.dict (es ++ entA n a b)), .fr (.int (n : Int)), s11, s12, s13, s14, s15, s16, s17, s18, s19, s20] := by
  have i1 : ixD (pD (a, b)) (.int 1) = some (.int (b : Int)) := rfl
  unfold b_law_4
  rw [wS_mFor]
  simp only [wP_con, wP_getF, wP_getT, wP_m2, wP_m1, wP_mC, wP_mCons, wP_mTup, wP_mLim, wP_mList, wP_mIt, wP_mIf, wP_mBl, wP_mTru, wP_mNotB, wP_mAndB, wP_mOrB, wP_mNot, wP_mAnd, wP_mOr, wP_mIsi, wP_part, wP_mSl, wP_enum, wP_mZip, wP_mChain, wP_mLc, wE_mE, wE_m2E, wE_m1E, wE_mCE, wE_nil, wE_true, wE_mConsE, wE_mConsS, wE_mConsN, wE_mIfE, wE_mTruE, wE_mBlE, wE_mNotBE, wE_mAndBE, wE_mOrBE, wE_takeF, wE_mLcE, wO_some, wO_ite, wO_getO, if_true, if_false, Bool.false_eq_true, true_and, List.getElem?_cons_zero, List.getElem?_cons_succ, List.set_cons_zero, List.set_cons_succ, r_len1, r_len2, r_len3, wP_mSlS, wE_mSlE, wE_partN, wE_part, wE_mSlEE, wP_dget, wP_din, due_at h, i1, d_range (show b < 2 ^ 62 by omega)]
  refine wS_loop (fun p ρ => ∃ s11, ρ = [s0, s1, s2, s3, s4, s5, s6, s7, .fr (.tuple (Sp.map pD)), .ow (.dict (es ++ entA n a p)), .fr (.int (n : Int)), s11, s12, s13, s14, s15, s16, s17, s18, s19, s20]) ⟨_, by unfold entA; rw [List.range_zero, List.map_nil, List.append_nil]⟩ (fun p d ρ hp ⟨s11, e⟩ => ?_) (fun ρ ⟨s11, e⟩ => ?_)
  · subst e
    have hpb : p < b := by
      have := (List.getElem?_eq_some_iff.mp hp).1
      rwa [List.length_map, List.length_range] at this
    have hd : d = .int (p : Nat) := by
      rw [List.getElem?_map, List.getElem?_range hpb] at hp
      exact (Option.some.inj hp).symm
    subst hd
    rw [wO_some]
    simp only [List.set_cons_zero, List.set_cons_succ]
    have hnew : lookI (es ++ entA n a p) ((a + p : Nat) : Int) = none := by
      rw [look_app, hn (a + p) (by omega), look_ent, if_neg (by omega)]
    have hlen : (es ++ entA n a p).length ≤ 5000 := by
      rw [List.length_append]
      unfold entA
      rw [List.length_map, List.length_range]
      omega
    refine (law3_ok h hnew hlen _ _ _ _ _ _ _ _ _ _ _ _ _ _ _ _ _).mono fun o e => ?_
    subst e
    rw [entA_succ, List.append_assoc]
    exact ⟨_, rfl⟩
  · subst e
    rw [List.length_map, List.length_range]
    exact ⟨_, rfl⟩
theorem take_snoc {Sp : List (Nat × Nat)} {n : Nat} {q : Nat × Nat} (h : Sp[n]? = some q) : Sp.take (n + 1) = Sp.take n ++ [q] := by
  rw [List.take_add_one, h]; rfl
theorem sp_facts {lg : Nat} {Sp : List (Nat × Nat)} (hs : srt lg 0 Sp) {n a b : Nat} (h : Sp[n]? = some (a, b)) : srt lg 0 (Sp.take n) ∧ enE 0 (Sp.take n) ≤ a ∧ b ≤ lg := by
  have e : Sp = Sp.take n ++ (a, b) :: Sp.drop (n + 1) := by
    have h1 := (List.take_append_drop n Sp).symm
    rw [List.drop_eq_getElem_cons (List.getElem?_eq_some_iff.mp h).1, (List.getElem?_eq_some_iff.mp h).2] at h1
    exact h1
  rw [e] at hs
  obtain ⟨g1, g2, g3, g4, _⟩ := srt_app hs
  exact ⟨g1, g2, g4⟩
def F1 (c : Nat) (fs : List (List Int)) : Prop := ∀ f ∈ fs, f.length = c
theorem F2.frs1 {ds xs : List D} {c : Nat} (h : F2 (fun _ v => ∃ l : List Int, v = tI l ∧ l.length = c) ds xs) : ∃ fs : List (List Int), xs = fs.map tI ∧ fs.length = ds.length ∧ F1 c fs := by
  induction h with
  | nil => exact ⟨[], rfl, rfl, fun i h => by cases h⟩
  | cons h _ ih =>
    obtain ⟨l, rfl, h1⟩ := h
    obtain ⟨is, rfl, hl, hb⟩ := ih
    refine ⟨l :: is, rfl, by simp [hl], fun j hj => ?_⟩
    rcases List.mem_cons.mp hj with rfl | hj
    · exact h1
    · exact hb j hj
theorem law1_ok {d : D} (h : okG okE 100 d) {fs : List (List Int)} (hl : fs.length ≤ 1000) {lg : Int} (s0 s1 s2 s3 s4 s5 s8 s9 s10 s11 s12 s13 s14 s16 s17 s18 s19 s20 : Sl) :
    wS b_law_1 [s0, s1, s2, s3, s4, s5, .fr (.int lg), .fr (.tuple (fs.map tI)), s8, s9, s10, s11, s12, s13, s14, .fr d, s16, s17, s18, s19, s20] fun o => o = .nx [s0, s1, s2, s3, s4, s5, .fr (.int lg), .fr (.tuple (fs.map tI)), s8, s9, s10, s11, s12, s13, s14, .fr d, s16, s17, s18, s19, s20] := by
  obtain ⟨_, e1, rfl⟩ := aps_ok h (many := (fs.length : Nat)) (lg := lg)
  obtain ⟨_, e2, rfl⟩ := las_ok h (many := (fs.length : Nat)) (lg := lg)
  have heq : aPD (fs.length : Nat) lg d = aSD (fs.length : Nat) lg d := by
    cases d with
    | tuple xs => exact (are_eq (by omega) (by omega)).symm
    | _ => rfl
  rw [heq] at e1
  unfold b_law_1
  refine wS_chk1 ?_ rfl
  simp only [wP_con, wP_getF, wP_getT, wP_m2, wP_m1, wP_mC, wP_mCons, wP_mTup, wP_mLim, wP_mList, wP_mIt, wP_mIf, wP_mBl, wP_mTru, wP_mNotB, wP_mAndB, wP_mOrB, wP_mNot, wP_mAnd, wP_mOr, wP_mIsi, wP_part, wP_mSl, wP_enum, wP_mZip, wP_mChain, wP_mLc, wE_mE, wE_m2E, wE_m1E, wE_mCE, wE_nil, wE_true, wE_mConsE, wE_mConsS, wE_mConsN, wE_mIfE, wE_mTruE, wE_mBlE, wE_mNotBE, wE_mAndBE, wE_mOrBE, wE_takeF, wE_mLcE, wO_some, wO_ite, wO_getO, if_true, if_false, Bool.false_eq_true, true_and, List.getElem?_cons_zero, List.getElem?_cons_succ, List.set_cons_zero, List.set_cons_succ, r_len1, r_len2, r_len3, wP_mSlS, wE_mSlE, wE_partN, wE_part, wE_mSlEE, wP_dget, wP_din, d_lent, List.length_map, e1, e2, same_ok (d := .bool _) trivial, d_trb, Bool.not_true]
theorem okE_p (p : Nat × Nat) : okE (pD p) := ⟨by simp, by decide, fun x hx => by
  simp only [List.mem_cons, List.not_mem_nil, or_false] at hx
  rcases hx with rfl | rfl <;> trivial⟩
theorem okG_due {Sp : List (Nat × Nat)} (h : Sp.length ≤ 99) : okG okE 100 (.tuple (Sp.map pD)) := ⟨by rw [List.length_map]; omega, by decide, fun x hx => by
  obtain ⟨p, _, rfl⟩ := List.mem_map.mp hx
  exact okE_p p⟩
theorem spoilt_due {b : Nat} {bx : D} (hb : Bx b bx) {Sp : List (Nat × Nat)} (h : Sp.length ≤ 99) : wO (m__law_spoilt bx [.tuple (Sp.map pD)]) fun z => okG okE 100 z.1 ∧ Bx b z.2 := by
  have := sp_T okE trivial (recIO (fun g => mFunIO RB 1 4 2 (b__law_spoilt g)) 11) hb (xs := Sp.map pD) (by rw [List.length_map]; omega) (fun x hx => by
    obtain ⟨p, _, rfl⟩ := List.mem_map.mp hx
    exact okE_p p) (fun bx hb x hx => by
      obtain ⟨p, _, rfl⟩ := List.mem_map.mp hx
      exact sp_T noDict trivial (recIO (fun g => mFunIO RB 1 4 2 (b__law_spoilt g)) 10) hb (xs := [.int (p.1 : Int), .int (p.2 : Int)]) (by simp) (fun x hx => by
        simp only [List.mem_cons, List.not_mem_nil, or_false] at hx
        rcases hx with rfl | rfl <;> trivial) (fun bx hb x hx => by
          simp only [List.mem_cons, List.not_mem_nil, or_false] at hx
          rcases hx with rfl | rfl
          · exact sp_int (recIO (fun g => mFunIO RB 1 4 2 (b__law_spoilt g)) 9) hb _
          · exact sp_int (recIO (fun g => mFunIO RB 1 4 2 (b__law_spoilt g)) 9) hb _))
  obtain ⟨z, e, h1, h2⟩ := this
  refine ⟨z, e, ?_, h2⟩
  cases hz : z.1 with
  | dict kv => rw [hz] at h1; exact absurd h1 id
  | tuple xs =>
    rw [hz] at h1
    refine ⟨?_, by decide, h1.2.2⟩
    have := h1.1
    rw [List.length_map] at this
    omega
  | _ => trivial
def Inv01 (b : Nat) (ρ : Ev) : Prop := ∃ bx s2 s3 s4 s5 s6 s7 s8 s9 s10 s11 s12 s13 s14 s15 s16 s17 s18 s19 s20, Bx b bx ∧ ρ = [.no, .ob 1 bx, s2, s3, s4, s5, s6, s7, s8, s9, s10, s11, s12, s13, s14, s15, s16, s17, s18, s19, s20]
theorem pickN {xs : List D} {v : Int} {hi : Nat} (h : 0 ≤ v) (h2 : v < xs.length) (k : ∀ x ∈ xs, ∃ n : Nat, x = .int (n : Int) ∧ n ≤ hi) : ∃ n : Nat, atI xs v = some (.int (n : Int)) ∧ n ≤ hi ∧ PyData.int (n : Int) ∈ xs := by
  have h3 : v.toNat < xs.length := by omega
  obtain ⟨n, hn, hb⟩ := k _ (List.getElem_mem h3)
  refine ⟨n, ?_, hb, ?_⟩
  · rw [at_pos h h2, List.getElem?_eq_getElem h3, hn]
  · rw [← hn]; exact List.getElem_mem h3
theorem frames_drawn {b : Nat} {bx : D} (hb : Bx b bx) {c : Nat} {L : Int} (hc : c ≤ 100) {s2 s5 s6 s8 s9 s10 s11 s12 s13 s14 s15 s18 s19 s20 : Sl} {Q : D → Ev → Prop}
    (q : ∀ (fs : List (List Int)) (bx : D) (s7 s16 s17 : Sl), Bx b bx → fs.length ≤ 29 → F1 c fs → Q (.tuple (fs.map tI)) [.no, .ob 1 bx, s2, .fr (.int (c : Int)), .fr (.int L), s5, s6, s7, s8, s9, s10, s11, s12, s13, s14, s15, s16, s17, s18, s19, s20]) (s7 s16 s17 : Sl) :
    wE (mCE (mConsE (mCE (mLcE [16] (mCE (mConsE (mIO 1 1 (mE (mCons (fun _ => some (.int 30)) (fun _ => some []))) drawD) (fun ρ => some ([], ρ))) fun ds => if ds.length = 1 then rangeD ds else none) (fun d ρ => some (ρ.set 16 (.fr d))) (fun ρ => some (true, ρ)) (mCE (mConsE (mCE (mLcE [17] (mE (mC (mCons (getF 3) (fun _ => some [])) fun ds => if ds.length = 1 then rangeD ds else none)) (fun d ρ => some (ρ.set 17 (.fr d))) (fun ρ => some (true, ρ)) (mIfE (mBlE (m2E eqD (mIO 1 1 (mE (mCons (fun _ => some (.int 3)) (fun _ => some []))) drawD) (mE (fun _ => some (.int 0))))) (m2E ixD (mE (mList (mLim (mCons (fun _ => some (.int 0)) (mCons (getF 4) (mCons (m1 negD (getF 4)) (mCons (mC (mCons (fun _ => some (.int 255)) (mCons (m2 addD (getF 4) (fun _ => some (.int 1))) (fun _ => some []))) min2D) (mCons (mC (mCons (m1 negD (fun _ => some (.int 256))) (mCons (m2 subD (m1 negD (getF 4)) (fun _ => some (.int 1))) (fun _ => some []))) max2D) (fun _ => some []))))))))) (mIO 1 1 (mE (mCons (fun _ => some (.int 5)) (fun _ => some []))) drawD)) (mE (fun _ => some (.int 0))))) fun ds => some (.list ds)) (fun ρ => some ([], ρ))) tupD)) fun ds => some (.list ds)) (fun ρ => some ([], ρ))) tupD)
      [.no, .ob 1 bx, s2, .fr (.int (c : Int)), .fr (.int L), s5, s6, s7, s8, s9, s10, s11, s12, s13, s14, s15, s16, s17, s18, s19, s20] Q := by
  rw [wE_mCE, wE_mConsE, wE_mCE, wE_mLcE, wE_mCE, wE_mConsE]
  refine wE_draw rfl hb (by decide) (by decide) fun n bx1 n1 n2 hb1 => ?_
  simp only [wE_nil, r_len1, d_rangeI n1 (show n < 2 ^ 62 by omega), wO_some, List.set_cons_zero, List.set_cons_succ]
  rw [if_pos (show ([PyData.int n] : List D).length = 1 from rfl), wO_some]
  refine ⟨range_len (by omega), ?_⟩
  refine wE_lcGoE (fun ρ => ∃ bx s16 s17, Bx b bx ∧ ρ = [.no, .ob 1 bx, s2, .fr (.int (c : Int)), .fr (.int L), s5, s6, s7, s8, s9, s10, s11, s12, s13, s14, s15, s16, s17, s18, s19, s20]) (fun _ v => ∃ l : List Int, v = tI l ∧ l.length = c) (fun d hd ρ ⟨bx, s16, s17, hb, e⟩ => ?_) ⟨_, _, _, hb1, rfl⟩ (fun gs ρ hg ⟨bx2, s16, s17, hb2, e⟩ => ?_)
  · subst e
    simp only [wipeE, List.set_cons_zero, List.set_cons_succ, wP_con, wP_getF, wP_getT, wP_m2, wP_m1, wP_mC, wP_mCons, wP_mTup, wP_mLim, wP_mList, wP_mIt, wP_mIf, wP_mBl, wP_mTru, wP_mNotB, wP_mAndB, wP_mOrB, wP_mNot, wP_mAnd, wP_mOr, wP_mIsi, wP_part, wP_mSl, wP_enum, wP_mZip, wP_mChain, wP_mLc, wE_mE, wE_m2E, wE_m1E, wE_mCE, wE_nil, wE_true, wE_mConsE, wE_mConsS, wE_mConsN, wE_mIfE, wE_mTruE, wE_mBlE, wE_mNotBE, wE_mAndBE, wE_mOrBE, wE_takeF, wE_mLcE, wO_some, wO_ite, wO_getO, if_true, if_false, Bool.false_eq_true, true_and, List.getElem?_cons_zero, List.getElem?_cons_succ, List.set_cons_zero, List.set_cons_succ, r_len1, r_len2, r_len3, wP_mSlS, wE_mSlE, wE_partN, wE_part, wE_mSlEE, wP_dget, wP_din, d_range (show c < 2 ^ 62 by omega)]
    refine ⟨range_len (by omega), ?_⟩
    refine wE_lcGoE (fun ρ => ∃ bx s17, Bx b bx ∧ ρ = [.no, .ob 1 bx, s2, .fr (.int (c : Int)), .fr (.int L), s5, s6, s7, s8, s9, s10, s11, s12, s13, s14, s15, .fr d, s17, s18, s19, s20]) (fun _ v => ∃ i, v = .int i) (fun d' hd' ρ ⟨bx, s17, hb, e⟩ => ?_) ⟨_, _, hb, rfl⟩ (fun js ρ hj ⟨bx3, s17, hb3, e⟩ => ?_)
    · subst e
      simp only [wipeE, List.set_cons_zero, List.set_cons_succ, wP_con, wP_getF, wP_getT, wP_m2, wP_m1, wP_mC, wP_mCons, wP_mTup, wP_mLim, wP_mList, wP_mIt, wP_mIf, wP_mBl, wP_mTru, wP_mNotB, wP_mAndB, wP_mOrB, wP_mNot, wP_mAnd, wP_mOr, wP_mIsi, wP_part, wP_mSl, wP_enum, wP_mZip, wP_mChain, wP_mLc, wE_mE, wE_m2E, wE_m1E, wE_mCE, wE_nil, wE_true, wE_mConsE, wE_mConsS, wE_mConsN, wE_mIfE, wE_mTruE, wE_mBlE, wE_mNotBE, wE_mAndBE, wE_mOrBE, wE_takeF, wE_mLcE, wO_some, wO_ite, wO_getO, if_true, if_false, Bool.false_eq_true, true_and, List.getElem?_cons_zero, List.getElem?_cons_succ, List.set_cons_zero, List.set_cons_succ, r_len1, r_len2, r_len3, wP_mSlS, wE_mSlE, wE_partN, wE_part, wE_mSlEE, wP_dget, wP_din]
      refine wE_draw rfl hb (by decide) (by decide) fun u bx1 u1 u2 hb1 => ?_
      simp only [d_eq, wO_some, blD]
      by_cases hu : u = 0
      · rw [show (u == 0) = true from beq_iff_eq.mpr hu]
        simp only [if_true, wP_con, wP_getF, wP_getT, wP_m2, wP_m1, wP_mC, wP_mCons, wP_mTup, wP_mLim, wP_mList, wP_mIt, wP_mIf, wP_mBl, wP_mTru, wP_mNotB, wP_mAndB, wP_mOrB, wP_mNot, wP_mAnd, wP_mOr, wP_mIsi, wP_part, wP_mSl, wP_enum, wP_mZip, wP_mChain, wP_mLc, wE_mE, wE_m2E, wE_m1E, wE_mCE, wE_nil, wE_true, wE_mConsE, wE_mConsS, wE_mConsN, wE_mIfE, wE_mTruE, wE_mBlE, wE_mNotBE, wE_mAndBE, wE_mOrBE, wE_takeF, wE_mLcE, wO_some, wO_ite, wO_getO, if_true, if_false, Bool.false_eq_true, true_and, List.getElem?_cons_zero, List.getElem?_cons_succ, List.set_cons_zero, List.set_cons_succ, r_len1, r_len2, r_len3, wP_mSlS, wE_mSlE, wE_partN, wE_part, wE_mSlEE, wP_dget, wP_din, d_neg, d_add, d_sub, d_min, d_max, List.length_cons, List.length_nil, List.set_cons_zero, List.set_cons_succ]
        refine ⟨ll_small (by decide), wE_draw rfl hb1 (by decide) (by decide) fun v bx2 v1 v2 hb2 => ?_⟩
        obtain ⟨x, ex, i, rfl⟩ := at_mem (xs := [.int 0, .int L, .int (-L), .int (if L + 1 < 255 then L + 1 else 255), .int (if -L - 1 > -256 then -L - 1 else -256)]) (P := fun x => ∃ i, x = .int i) v1 v2 (fun x hx => by
          simp only [List.mem_cons, List.not_mem_nil, or_false] at hx
          rcases hx with rfl | rfl | rfl | rfl | rfl <;> exact ⟨_, rfl⟩)
        simp only [d_ixl, ex, wO_some, List.set_cons_zero, List.set_cons_succ]
        exact ⟨rfl, ⟨_, rfl⟩, _, _, hb2, rfl⟩
      · rw [show (u == 0) = false from beq_false_of_ne hu]
        simp only [Bool.false_eq_true, if_false, wP_con, wP_getF, wP_getT, wP_m2, wP_m1, wP_mC, wP_mCons, wP_mTup, wP_mLim, wP_mList, wP_mIt, wP_mIf, wP_mBl, wP_mTru, wP_mNotB, wP_mAndB, wP_mOrB, wP_mNot, wP_mAnd, wP_mOr, wP_mIsi, wP_part, wP_mSl, wP_enum, wP_mZip, wP_mChain, wP_mLc, wE_mE, wE_m2E, wE_m1E, wE_mCE, wE_nil, wE_true, wE_mConsE, wE_mConsS, wE_mConsN, wE_mIfE, wE_mTruE, wE_mBlE, wE_mNotBE, wE_mAndBE, wE_mOrBE, wE_takeF, wE_mLcE, wO_some, wO_ite, wO_getO, if_true, if_false, Bool.false_eq_true, true_and, List.getElem?_cons_zero, List.getElem?_cons_succ, List.set_cons_zero, List.set_cons_succ, r_len1, r_len2, r_len3, wP_mSlS, wE_mSlE, wE_partN, wE_part, wE_mSlEE, wP_dget, wP_din]
        exact ⟨rfl, ⟨_, rfl⟩, _, _, hb1, rfl⟩
    · obtain ⟨is, rfl, hl⟩ := hj.ints
      rw [List.length_map, List.length_range] at hl
      subst e
      simp only [d_tupl, wO_some]
      exact ⟨rfl, ⟨is, rfl, hl⟩, _, _, _, hb3, rfl⟩
  obtain ⟨fs, rfl, hfl, hf1⟩ := hg.frs1
  rw [List.length_map, List.length_range] at hfl
  subst e
  simp only [wO_some, wE_nil, d_tupl]
  exact q fs bx2 s7 s16 s17 hb2 (by omega) hf1
def husD (Sp : List (Nat × Nat)) (fs : List (List Int)) : D → D
  | .int k => tI (huF Sp k.toNat (fs[k.toNat]?.getD []))
  | _ => .none
theorem husD_map (Sp : List (Nat × Nat)) (fs : List (List Int)) : ((List.range fs.length).map fun i => PyData.int (i : Nat)).map (husD Sp fs) = (hus Sp fs).map tI := by
  unfold hus
  rw [List.map_map, List.map_map]
  congr 1
theorem turn_ok (b : Nat) (bx : D) (hb : Bx b bx) (s2 s3 s4 s5 s6 s7 s8 s9 s10 s11 s12 s13 s14 s15 s16 s17 s18 s19 s20 : Sl) : wS b_law_5 [.no, .ob 1 bx, s2, s3, s4, s5, s6, s7, s8, s9, s10, s11, s12, s13, s14, s15, s16, s17, s18, s19, s20] (Nx (Inv01 b)) := by
  unfold b_law_5
  refine wS_par ?_
  rw [wE_mConsS, wE_m2E, wE_mE, wP_con]
  refine wE_draw rfl hb (by decide) (by decide) fun c bx1 c1 c2 hb1 => ?_
  obtain ⟨c, rfl⟩ : ∃ n : Nat, c = n := ⟨c.toNat, by omega⟩
  have ec : (1 : Int) + (c : Int) = ((1 + c : Nat) : Int) := by omega
  simp only [d_add, ec, wO_some, List.set_cons_zero, List.set_cons_succ]
  simp only [wE_mConsS, wE_m2E, wE_mE, wP_mList, wP_mLim, wP_mCons, wP_con, List.length_cons, List.length_nil]
  refine ⟨ll_small (by decide), wE_draw rfl hb1 (by decide) (by decide) fun v bx2 v1 v2 hb2 => ?_⟩
  obtain ⟨L, eL, hL, _⟩ := pickN (xs := [.int 0, .int 1, .int 3, .int 255]) (hi := 255) v1 v2 (fun x hx => by
    simp only [List.mem_cons, List.not_mem_nil, or_false] at hx
    rcases hx with rfl | rfl | rfl | rfl
    · exact ⟨0, rfl, by decide⟩
    · exact ⟨1, rfl, by decide⟩
    · exact ⟨3, rfl, by decide⟩
    · exact ⟨255, rfl, by decide⟩)
  simp only [d_ixl, eL, wO_some, List.set_cons_zero, List.set_cons_succ]
  refine ⟨ll_small (by decide), wE_draw rfl hb2 (by decide) (by decide) fun v bx3 v3 v4 hb3 => ?_⟩
  obtain ⟨hg, eH, hH, _⟩ := pickN (xs := [.int 0, .int 0, .int 1, .int 2, .int 8]) (hi := 8) v3 v4 (fun x hx => by
    simp only [List.mem_cons, List.not_mem_nil, or_false] at hx
    rcases hx with rfl | rfl | rfl | rfl | rfl
    · exact ⟨0, rfl, by decide⟩
    · exact ⟨0, rfl, by decide⟩
    · exact ⟨1, rfl, by decide⟩
    · exact ⟨2, rfl, by decide⟩
    · exact ⟨8, rfl, by decide⟩)
  simp only [d_ixl, eH, wO_some, List.set_cons_zero, List.set_cons_succ]
  refine ⟨ll_small (by decide), wE_draw rfl hb3 (by decide) (by decide) fun v bx4 v5 v6 hb4 => ?_⟩
  obtain ⟨x, eG, lg, rfl, hG, hG1⟩ := at_mem (xs := [.int 1, .int 2, .int 3, .int 5, .int 32]) (P := fun x => ∃ n : Nat, x = .int (n : Int) ∧ n ≤ 32 ∧ 1 ≤ n) v5 v6 (fun x hx => by
    simp only [List.mem_cons, List.not_mem_nil, or_false] at hx
    rcases hx with rfl | rfl | rfl | rfl | rfl
    · exact ⟨1, rfl, by decide, by decide⟩
    · exact ⟨2, rfl, by decide, by decide⟩
    · exact ⟨3, rfl, by decide, by decide⟩
    · exact ⟨5, rfl, by decide, by decide⟩
    · exact ⟨32, rfl, by decide, by decide⟩)
  simp only [d_ixl, eG, wO_some, wE_nil, setAll, SV.sl, List.set_cons_zero, List.set_cons_succ, List.length_cons, List.length_nil]
  refine ⟨trivial, ?_⟩
  have hc3 : 1 + c ≤ 3 := by omega
  have hc1 : 1 ≤ 1 + c := by omega
  generalize 1 + c = c at *
  refine wS_setE (frames_drawn hb4 (by omega) (fun fs bx5 s7 s16 s17 hb5 hfl hf1 => ?_) _ _ _)
  simp only [List.set_cons_zero, List.set_cons_succ]
  have hfl1 : ∀ f ∈ fs, 1 ≤ f.length ∧ f.length ≤ 1000 := fun f hf => by have := hf1 f hf; omega
  obtain ⟨_, e1, rfl⟩ := lspurts_ok (fs := fs) (L := (L : Int)) (hg := hg) (lg := lg) hG1 (by omega) (fun f hf => (hfl1 f hf).2)
  obtain ⟨_, e2, rfl⟩ := spurts_ok (fs := fs) (L := (L : Int)) (hg := hg) (lg := lg) (by omega) hfl1
  have hR := spR_ok (W := wi (loF (L : Int) fs) hg) hG1 fs.length
  obtain ⟨hsrt, hend⟩ := okR_srt hR
  have hSl : (spF fs (L : Int) hg lg).length ≤ fs.length := by
    unfold spF
    rw [List.length_reverse]
    exact spR_len _
  have hcov : ∀ (k : Nat) (f : List Int), fs[k]? = some f → loudB (L : Int) f = true → (spAt (spF fs (L : Int) hg lg) 0 k).isSome = true := fun k f hk hl => by
    rw [spAt_cov]
    have hw : wi (loF (L : Int) fs) hg k = true := wi_loud (by rw [loF_get hk]; exact hl)
    obtain ⟨p, hp, h1, h2⟩ := spR_cov (W := wi (loF (L : Int) fs) hg) (lg := lg) fs.length k (List.getElem?_eq_some_iff.mp hk).1 hw
    exact ⟨p, by unfold spF; exact List.mem_reverse.mpr hp, h1, h2⟩
  have hsrt : srt lg 0 (spF fs (L : Int) hg lg) := hsrt
  have hend : enE 0 (spF fs (L : Int) hg lg) ≤ fs.length := hend
  generalize spF fs (L : Int) hg lg = Sp at *
  have q1 : m__law_same [.tuple (Sp.map pD), .tuple (Sp.map pD)] = some (.bool true) := same_ok (d := .tuple (Sp.map pD)) ⟨by rw [List.length_map]; exact ll_small (by omega), fun x hx => by
    obtain ⟨p, _, rfl⟩ := List.mem_map.mp hx
    exact okI (n := 9) (xs := [(p.1 : Int), (p.2 : Int)]) (by simp)⟩
  obtain ⟨_, e3, rfl⟩ := aps_ok (okG_due (Sp := Sp) (by omega)) (many := (fs.length : Nat)) (lg := (lg : Int))
  have ha : aPD (fs.length : Nat) (lg : Int) (.tuple (Sp.map pD)) = true := by
    show (((Sp.map pD).all fun d => isRow d 2 2) && areP (fs.length : Nat) (lg : Int) 0 (Sp.map pD)) = true
    have h1 : ((Sp.map pD).all fun d => isRow d 2 2) = true := by
      rw [List.all_eq_true]
      intro x hx
      obtain ⟨p, _, rfl⟩ := List.mem_map.mp hx
      rfl
    have h2 := areP_ok (many := fs.length) hsrt hend
    rw [h1]
    exact h2
  rw [ha] at e3
  have ni : isNotD (.bool true) (.bool true) = some (.bool false) := rfl
  refine wS_set ?_
  simp only [wP_con, wP_getF, wP_getT, wP_m2, wP_m1, wP_mC, wP_mCons, wP_mTup, wP_mLim, wP_mList, wP_mIt, wP_mIf, wP_mBl, wP_mTru, wP_mNotB, wP_mAndB, wP_mOrB, wP_mNot, wP_mAnd, wP_mOr, wP_mIsi, wP_part, wP_mSl, wP_enum, wP_mZip, wP_mChain, wP_mLc, wE_mE, wE_m2E, wE_m1E, wE_mCE, wE_nil, wE_true, wE_mConsE, wE_mConsS, wE_mConsN, wE_mIfE, wE_mTruE, wE_mBlE, wE_mNotBE, wE_mAndBE, wE_mOrBE, wE_takeF, wE_mLcE, wO_some, wO_ite, wO_getO, if_true, if_false, Bool.false_eq_true, true_and, List.getElem?_cons_zero, List.getElem?_cons_succ, List.set_cons_zero, List.set_cons_succ, r_len1, r_len2, r_len3, wP_mSlS, wE_mSlE, wE_partN, wE_part, wE_mSlEE, wP_dget, wP_din, e1]
  refine wS_chk ?_ ?_
  · simp only [wP_con, wP_getF, wP_getT, wP_m2, wP_m1, wP_mC, wP_mCons, wP_mTup, wP_mLim, wP_mList, wP_mIt, wP_mIf, wP_mBl, wP_mTru, wP_mNotB, wP_mAndB, wP_mOrB, wP_mNot, wP_mAnd, wP_mOr, wP_mIsi, wP_part, wP_mSl, wP_enum, wP_mZip, wP_mChain, wP_mLc, wE_mE, wE_m2E, wE_m1E, wE_mCE, wE_nil, wE_true, wE_mConsE, wE_mConsS, wE_mConsN, wE_mIfE, wE_mTruE, wE_mBlE, wE_mNotBE, wE_mAndBE, wE_mOrBE, wE_takeF, wE_mLcE, wO_some, wO_ite, wO_getO, if_true, if_false, Bool.false_eq_true, true_and, List.getElem?_cons_zero, List.getElem?_cons_succ, List.set_cons_zero, List.set_cons_succ, r_len1, r_len2, r_len3, wP_mSlS, wE_mSlE, wE_partN, wE_part, wE_mSlEE, wP_dget, wP_din, e2, q1, d_trb, Bool.not_true, d_lent, List.length_map, e3, ni]
  refine wS_dnew ?_
  simp only [List.set_cons_zero, List.set_cons_succ]
  refine wS_forS (ds := (List.range Sp.length).map fun i => PyData.int (i : Nat)) ?_ (fun n ρ => ∃ s10 s11, ρ = [.no, .ob 1 bx5, s2, .fr (.int (c : Int)), .fr (.int (L : Int)), .fr (.int (hg : Int)), .fr (.int (lg : Int)), .fr (.tuple (fs.map tI)), .fr (.tuple (Sp.map pD)), .ow (.dict (ents (Sp.take n) 0)), s10, s11, s12, s13, s14, s15, s16, s17, s18, s19, s20]) ⟨_, _, rfl⟩ (fun n d ρ hn ⟨s10, s11, e⟩ => ?_) (fun ρ ⟨s10, s11, e⟩ => ?_)
  · simp only [wP_con, wP_getF, wP_getT, wP_m2, wP_m1, wP_mC, wP_mCons, wP_mTup, wP_mLim, wP_mList, wP_mIt, wP_mIf, wP_mBl, wP_mTru, wP_mNotB, wP_mAndB, wP_mOrB, wP_mNot, wP_mAnd, wP_mOr, wP_mIsi, wP_part, wP_mSl, wP_enum, wP_mZip, wP_mChain, wP_mLc, wE_mE, wE_m2E, wE_m1E, wE_mCE, wE_nil, wE_true, wE_mConsE, wE_mConsS, wE_mConsN, wE_mIfE, wE_mTruE, wE_mBlE, wE_mNotBE, wE_mAndBE, wE_mOrBE, wE_takeF, wE_mLcE, wO_some, wO_ite, wO_getO, if_true, if_false, Bool.false_eq_true, true_and, List.getElem?_cons_zero, List.getElem?_cons_succ, List.set_cons_zero, List.set_cons_succ, r_len1, r_len2, r_len3, wP_mSlS, wE_mSlE, wE_partN, wE_part, wE_mSlEE, wP_dget, wP_din, d_lent, List.length_map, d_range (show Sp.length < 2 ^ 62 by omega)]
  · subst e
    have hnl : n < Sp.length := by
      have := (List.getElem?_eq_some_iff.mp hn).1
      rwa [List.length_map, List.length_range] at this
    have hd : d = .int (n : Nat) := by
      rw [List.getElem?_map, List.getElem?_range hnl] at hn
      exact (Option.some.inj hn).symm
    subst hd
    obtain ⟨⟨a, bb⟩, hq⟩ : ∃ q, Sp[n]? = some q := ⟨_, List.getElem?_eq_getElem hnl⟩
    obtain ⟨g1, g2, g3⟩ := sp_facts hsrt hq
    have hel := ents_len (n := 0) g1
    have htl : (Sp.take n).length ≤ 29 := by rw [List.length_take]; omega
    have hlm : lg * (Sp.take n).length ≤ 32 * 29 := Nat.mul_le_mul hG htl
    rw [wO_some]
    simp only [List.set_cons_zero, List.set_cons_succ]
    refine (law4_ok hq (by omega) (fun i hi => by rw [look_ents, srt_none g1 (by omega)]; rfl) (by omega) _ _ _ _ _ _ _ _ _ _ _ _ _ _ _ _ _ _).mono fun o ⟨s11, e⟩ => ?_
    subst e
    refine ⟨.fr (.int (n : Int)), s11, ?_⟩
    rw [take_snoc hq, ents_snoc, List.length_take, Nat.min_eq_left (by omega), Nat.zero_add]
  subst e
  rw [List.length_map, List.length_range, List.take_length]
  have hlook : ∀ k : Nat, lookI (ents Sp 0) (k : Int) = (spAt Sp 0 k).map fun x => encO (some x) := fun k => look_ents k Sp 0
  refine wS_forS (ds := (List.range fs.length).map fun i => PyData.int (i : Nat)) ?_ (fun n ρ => ∃ s12 s13, ρ = [.no, .ob 1 bx5, s2, .fr (.int (c : Int)), .fr (.int (L : Int)), .fr (.int (hg : Int)), .fr (.int (lg : Int)), .fr (.tuple (fs.map tI)), .fr (.tuple (Sp.map pD)), .ow (.dict (ents Sp 0)), s10, s11, s12, s13, s14, s15, s16, s17, s18, s19, s20]) ⟨_, _, rfl⟩ (fun n d ρ hn ⟨s12, s13, e⟩ => ?_) (fun ρ ⟨s12, s13, e⟩ => ?_)
  · simp only [wP_con, wP_getF, wP_getT, wP_m2, wP_m1, wP_mC, wP_mCons, wP_mTup, wP_mLim, wP_mList, wP_mIt, wP_mIf, wP_mBl, wP_mTru, wP_mNotB, wP_mAndB, wP_mOrB, wP_mNot, wP_mAnd, wP_mOr, wP_mIsi, wP_part, wP_mSl, wP_enum, wP_mZip, wP_mChain, wP_mLc, wE_mE, wE_m2E, wE_m1E, wE_mCE, wE_nil, wE_true, wE_mConsE, wE_mConsS, wE_mConsN, wE_mIfE, wE_mTruE, wE_mBlE, wE_mNotBE, wE_mAndBE, wE_mOrBE, wE_takeF, wE_mLcE, wO_some, wO_ite, wO_getO, if_true, if_false, Bool.false_eq_true, true_and, List.getElem?_cons_zero, List.getElem?_cons_succ, List.set_cons_zero, List.set_cons_succ, r_len1, r_len2, r_len3, wP_mSlS, wE_mSlE, wE_partN, wE_part, wE_mSlEE, wP_dget, wP_din, d_lent, List.length_map, d_range (show fs.length < 2 ^ 62 by omega)]
  · subst e
    have hnl : n < fs.length := by
      have := (List.getElem?_eq_some_iff.mp hn).1
      rwa [List.length_map, List.length_range] at this
    have hd : d = .int (n : Nat) := by
      rw [List.getElem?_map, List.getElem?_range hnl] at hn
      exact (Option.some.inj hn).symm
    subst hd
    obtain ⟨f, hf⟩ : ∃ f, fs[n]? = some f := ⟨_, List.getElem?_eq_getElem hnl⟩
    rw [wO_some]
    simp only [List.set_cons_zero, List.set_cons_succ]
    refine (law2_ok hf (hfl1 f (List.mem_of_getElem? hf)).2 (hlook n) (hcov n f hf) _ _ _ _ _ _ _ _ _ _ _ _ _ _ _ _).mono fun o ⟨s13, e⟩ => ?_
    subst e
    exact ⟨_, _, rfl⟩
  subst e
  obtain ⟨_, e4, rfl⟩ := hushed_ok (L := Sp) (fs := fs) (by omega) (fun f hf => (hfl1 f hf).2)
  have hhl : (hus Sp fs).length = fs.length := by unfold hus; rw [List.length_map, List.length_range]
  have hget : ∀ (k : Nat) (f : List Int), fs[k]? = some f → f.length = c := fun k f h => hf1 f (List.mem_of_getElem? h)
  have hhf : ∀ f ∈ hus Sp fs, f.length ≤ 100 := fun f hf => by
    unfold hus at hf
    obtain ⟨k, hk, rfl⟩ := List.mem_map.mp hf
    have hk := List.mem_range.mp hk
    have h1 := hget k _ (List.getElem?_eq_getElem hk)
    rw [List.getElem?_eq_getElem hk]
    show (huF Sp k fs[k]).length ≤ 100
    unfold huF zer
    split
    · omega
    · rw [List.length_replicate]; omega
  have q2 : ∀ gs : List (List Int), gs.length ≤ 100 → (∀ f ∈ gs, f.length ≤ 100) → m__law_same [.tuple (gs.map tI), .tuple (gs.map tI)] = some (.bool true) := fun gs h1 h2 => same_ok (d := .tuple (gs.map tI)) ⟨by rw [List.length_map]; exact ll_small (by omega), fun x hx => by
    obtain ⟨f, hf, rfl⟩ := List.mem_map.mp hx
    exact okI (n := 9) (xs := f) (by have := h2 f hf; omega)⟩
  have q3 := q2 (hus Sp fs) (by omega) hhf
  refine wS_chk ?_ ?_
  · simp only [wP_con, wP_getF, wP_getT, wP_m2, wP_m1, wP_mC, wP_mCons, wP_mTup, wP_mLim, wP_mList, wP_mIt, wP_mIf, wP_mBl, wP_mTru, wP_mNotB, wP_mAndB, wP_mOrB, wP_mNot, wP_mAnd, wP_mOr, wP_mIsi, wP_part, wP_mSl, wP_enum, wP_mZip, wP_mChain, wP_mLc, wE_mE, wE_m2E, wE_m1E, wE_mCE, wE_nil, wE_true, wE_mConsE, wE_mConsS, wE_mConsN, wE_mIfE, wE_mTruE, wE_mBlE, wE_mNotBE, wE_mAndBE, wE_mOrBE, wE_takeF, wE_mLcE, wO_some, wO_ite, wO_getO, if_true, if_false, Bool.false_eq_true, true_and, List.getElem?_cons_zero, List.getElem?_cons_succ, List.set_cons_zero, List.set_cons_succ, r_len1, r_len2, r_len3, wP_mSlS, wE_mSlE, wE_partN, wE_part, wE_mSlEE, wP_dget, wP_din, e4, d_lent, List.length_map, d_range (show fs.length < 2 ^ 62 by omega), List.length_range]
    refine ⟨ll_small (by omega), ?_⟩
    refine wO_lcGo1 (husD Sp fs) (fun d hd => ?_) ?_
    · obtain ⟨k, rfl, hk⟩ := mem_range_int hd
      obtain ⟨f, hf⟩ : ∃ f, fs[k]? = some f := ⟨_, List.getElem?_eq_getElem hk⟩
      have hfc := hget k f hf
      have hD : husD Sp fs (.int (k : Int)) = tI (huF Sp k f) := by
        show tI (huF Sp k (fs[k]?.getD [])) = _
        rw [hf]; rfl
      rw [hD]
      unfold huF
      simp only [wipeE, List.set_cons_zero, List.set_cons_succ, wP_con, wP_getF, wP_getT, wP_m2, wP_m1, wP_mC, wP_mCons, wP_mTup, wP_mLim, wP_mList, wP_mIt, wP_mIf, wP_mBl, wP_mTru, wP_mNotB, wP_mAndB, wP_mOrB, wP_mNot, wP_mAnd, wP_mOr, wP_mIsi, wP_part, wP_mSl, wP_enum, wP_mZip, wP_mChain, wP_mLc, wE_mE, wE_m2E, wE_m1E, wE_mCE, wE_nil, wE_true, wE_mConsE, wE_mConsS, wE_mConsN, wE_mIfE, wE_mTruE, wE_mBlE, wE_mNotBE, wE_mAndBE, wE_mOrBE, wE_takeF, wE_mLcE, wO_some, wO_ite, wO_getO, if_true, if_false, Bool.false_eq_true, true_and, List.getElem?_cons_zero, List.getElem?_cons_succ, List.set_cons_zero, List.set_cons_succ, r_len1, r_len2, r_len3, wP_mSlS, wE_mSlE, wE_partN, wE_part, wE_mSlEE, wP_dget, wP_din, hlook]
      cases hs : spAt Sp 0 k with
      | none =>
        simp only [Option.map_none, Option.isSome_none, bne_self_eq_false, Bool.false_eq_true, if_false, wP_con, wP_getF, wP_getT, wP_m2, wP_m1, wP_mC, wP_mCons, wP_mTup, wP_mLim, wP_mList, wP_mIt, wP_mIf, wP_mBl, wP_mTru, wP_mNotB, wP_mAndB, wP_mOrB, wP_mNot, wP_mAnd, wP_mOr, wP_mIsi, wP_part, wP_mSl, wP_enum, wP_mZip, wP_mChain, wP_mLc, wE_mE, wE_m2E, wE_m1E, wE_mCE, wE_nil, wE_true, wE_mConsE, wE_mConsS, wE_mConsN, wE_mIfE, wE_mTruE, wE_mBlE, wE_mNotBE, wE_mAndBE, wE_mOrBE, wE_takeF, wE_mLcE, wO_some, wO_ite, wO_getO, if_true, if_false, Bool.false_eq_true, true_and, List.getElem?_cons_zero, List.getElem?_cons_succ, List.set_cons_zero, List.set_cons_succ, r_len1, r_len2, r_len3, wP_mSlS, wE_mSlE, wE_partN, wE_part, wE_mSlEE, wP_dget, wP_din, zt (show c ≤ 100000 by omega), List.length_cons, List.length_nil]
        rw [hfc]
        exact ⟨ll_small (by decide), rfl⟩
      | some p =>
        simp only [Option.map_some, Option.isSome_some, if_true, wP_con, wP_getF, wP_getT, wP_m2, wP_m1, wP_mC, wP_mCons, wP_mTup, wP_mLim, wP_mList, wP_mIt, wP_mIf, wP_mBl, wP_mTru, wP_mNotB, wP_mAndB, wP_mOrB, wP_mNot, wP_mAnd, wP_mOr, wP_mIsi, wP_part, wP_mSl, wP_enum, wP_mZip, wP_mChain, wP_mLc, wE_mE, wE_m2E, wE_m1E, wE_mCE, wE_nil, wE_true, wE_mConsE, wE_mConsS, wE_mConsN, wE_mIfE, wE_mTruE, wE_mBlE, wE_mNotBE, wE_mAndBE, wE_mOrBE, wE_takeF, wE_mLcE, wO_some, wO_ite, wO_getO, if_true, if_false, Bool.false_eq_true, true_and, List.getElem?_cons_zero, List.getElem?_cons_succ, List.set_cons_zero, List.set_cons_succ, r_len1, r_len2, r_len3, wP_mSlS, wE_mSlE, wE_partN, wE_part, wE_mSlEE, wP_dget, wP_din, fr_at hf, show (false != true) = true from rfl]
    · rw [husD_map, d_tupl]
      simp only [wO_some, q3, d_trb, Bool.not_true]
  refine wS_chk ?_ ?_
  · simp only [wP_con, wP_getF, wP_getT, wP_m2, wP_m1, wP_mC, wP_mCons, wP_mTup, wP_mLim, wP_mList, wP_mIt, wP_mIf, wP_mBl, wP_mTru, wP_mNotB, wP_mAndB, wP_mOrB, wP_mNot, wP_mAnd, wP_mOr, wP_mIsi, wP_part, wP_mSl, wP_enum, wP_mZip, wP_mChain, wP_mLc, wE_mE, wE_m2E, wE_m1E, wE_mCE, wE_nil, wE_true, wE_mConsE, wE_mConsS, wE_mConsN, wE_mIfE, wE_mTruE, wE_mBlE, wE_mNotBE, wE_mAndBE, wE_mOrBE, wE_takeF, wE_mLcE, wO_some, wO_ite, wO_getO, if_true, if_false, Bool.false_eq_true, true_and, List.getElem?_cons_zero, List.getElem?_cons_succ, List.set_cons_zero, List.set_cons_succ, r_len1, r_len2, r_len3, wP_mSlS, wE_mSlE, wE_partN, wE_part, wE_mSlEE, wP_dget, wP_din, d_eq]
    by_cases hL0 : L = 0
    · have hz : hus Sp fs = fs := by
        apply List.ext_getElem?
        intro k
        unfold hus
        by_cases hk : k < fs.length
        · rw [List.getElem?_map, List.getElem?_range hk, List.getElem?_eq_getElem hk]
          show some (huF Sp k (fs[k]?.getD [])) = _
          rw [List.getElem?_eq_getElem hk]
          congr 1
          show huF Sp k fs[k] = fs[k]
          unfold huF
          split
          · rfl
          · rename_i hs
            have hq : ¬ loudB (L : Int) fs[k] = true := fun z => hs (hcov k _ (List.getElem?_eq_getElem hk) z)
            unfold zer
            symm
            rw [List.eq_replicate_iff]
            refine ⟨rfl, fun x hx => ?_⟩
            apply Classical.byContradiction
            intro hx0
            apply hq
            unfold loudB
            rw [List.any_eq_true]
            refine ⟨x, hx, ?_⟩
            simp only [Bool.or_eq_true, decide_eq_true_eq]
            omega
        · rw [List.getElem?_eq_none (by rw [List.length_map, List.length_range]; omega), List.getElem?_eq_none (by omega)]
      rw [hz] at e4
      have q4 := q2 fs (by omega) (fun f hf => by have := hf1 f hf; omega)
      rw [show ((L : Int) == 0) = true from beq_iff_eq.mpr (by omega)]
      simp only [if_true, wP_con, wP_getF, wP_getT, wP_m2, wP_m1, wP_mC, wP_mCons, wP_mTup, wP_mLim, wP_mList, wP_mIt, wP_mIf, wP_mBl, wP_mTru, wP_mNotB, wP_mAndB, wP_mOrB, wP_mNot, wP_mAnd, wP_mOr, wP_mIsi, wP_part, wP_mSl, wP_enum, wP_mZip, wP_mChain, wP_mLc, wE_mE, wE_m2E, wE_m1E, wE_mCE, wE_nil, wE_true, wE_mConsE, wE_mConsS, wE_mConsN, wE_mIfE, wE_mTruE, wE_mBlE, wE_mNotBE, wE_mAndBE, wE_mOrBE, wE_takeF, wE_mLcE, wO_some, wO_ite, wO_getO, if_true, if_false, Bool.false_eq_true, true_and, List.getElem?_cons_zero, List.getElem?_cons_succ, List.set_cons_zero, List.set_cons_succ, r_len1, r_len2, r_len3, wP_mSlS, wE_mSlE, wE_partN, wE_part, wE_mSlEE, wP_dget, wP_din, e4, q4, d_trb, Bool.not_true]
    · rw [show ((L : Int) == 0) = false from beq_false_of_ne (by omega)]
      simp only [Bool.false_eq_true, if_false]
  obtain ⟨_, e5, rfl⟩ := parts_ok (L := Sp) (F := fs.map tI) (by omega)
  refine wS_chk ?_ ?_
  · simp only [wP_con, wP_getF, wP_getT, wP_m2, wP_m1, wP_mC, wP_mCons, wP_mTup, wP_mLim, wP_mList, wP_mIt, wP_mIf, wP_mBl, wP_mTru, wP_mNotB, wP_mAndB, wP_mOrB, wP_mNot, wP_mAnd, wP_mOr, wP_mIsi, wP_part, wP_mSl, wP_enum, wP_mZip, wP_mChain, wP_mLc, wE_mE, wE_m2E, wE_m1E, wE_mCE, wE_nil, wE_true, wE_mConsE, wE_mConsS, wE_mConsN, wE_mIfE, wE_mTruE, wE_mBlE, wE_mNotBE, wE_mAndBE, wE_mOrBE, wE_takeF, wE_mLcE, wO_some, wO_ite, wO_getO, if_true, if_false, Bool.false_eq_true, true_and, List.getElem?_cons_zero, List.getElem?_cons_succ, List.set_cons_zero, List.set_cons_succ, r_len1, r_len2, r_len3, wP_mSlS, wE_mSlE, wE_partN, wE_part, wE_mSlEE, wP_dget, wP_din, e5, d_itemt, List.length_map]
    refine ⟨ll_small (by omega), ?_⟩
    refine wO_lcGo1 (ptD (fs.map tI)) (fun d hd => ?_) ?_
    · obtain ⟨p, _, rfl⟩ := List.mem_map.mp hd
      simp only [pD, wipeE, List.set_cons_zero, List.set_cons_succ, gT, gsCons, List.length_cons, List.length_nil, if_true, Option.bind_some, wP_con, wP_getF, wP_getT, wP_m2, wP_m1, wP_mC, wP_mCons, wP_mTup, wP_mLim, wP_mList, wP_mIt, wP_mIf, wP_mBl, wP_mTru, wP_mNotB, wP_mAndB, wP_mOrB, wP_mNot, wP_mAnd, wP_mOr, wP_mIsi, wP_part, wP_mSl, wP_enum, wP_mZip, wP_mChain, wP_mLc, wE_mE, wE_m2E, wE_m1E, wE_mCE, wE_nil, wE_true, wE_mConsE, wE_mConsS, wE_mConsN, wE_mIfE, wE_mTruE, wE_mBlE, wE_mNotBE, wE_mAndBE, wE_mOrBE, wE_takeF, wE_mLcE, wS_mSeq, wS_mNext, wS_bk, wS_ct, wS_mRet, wS_mRetE, wS_mRetN, wS_mSet, wS_mSetE, wS_mSetN, wS_mSetNE, wS_mAsg, wS_mAsgE, wS_mIfS, wS_mIfSE, wS_mFor, wS_mForE, wS_mPar, wS_mApp, wS_mExt, wP_aug, wP_sti, wO_some, wO_ite, wO_getO, if_true, if_false, Bool.false_eq_true, true_and, List.getElem?_cons_zero, List.getElem?_cons_succ, List.set_cons_zero, List.set_cons_succ, r_len1, r_len2, r_len3, wP_mSlS, wE_mSlE, wE_partN, wE_part, wE_mSlEE, wP_dget, wP_din, d_part, d_add, d_slt, ptD]
    · have q5 : m__law_same [.tuple ((Sp.map pD).map (ptD (fs.map tI))), .tuple ((Sp.map pD).map (ptD (fs.map tI)))] = some (.bool true) := same_ok (d := .tuple ((Sp.map pD).map (ptD (fs.map tI)))) ⟨by rw [List.length_map, List.length_map]; exact ll_small (by omega), fun x hx => by
        obtain ⟨y, hy, rfl⟩ := List.mem_map.mp hx
        obtain ⟨p, _, rfl⟩ := List.mem_map.mp hy
        refine ⟨ll_small (Nat.le_trans cut_len (by rw [List.length_map]; omega)), fun z hz => ?_⟩
        have hz := List.mem_of_mem_drop (List.mem_of_mem_take hz)
        obtain ⟨f, hf, rfl⟩ := List.mem_map.mp hz
        exact okI (n := 8) (xs := f) (by have := hf1 f hf; omega)⟩
      rw [d_tupl]
      simp only [wO_some, q5, d_trb, Bool.not_true]
  refine wS_set ?_
  have hl1 : ((fs.length : Nat) : Int) + 1 = ((fs.length + 1 : Nat) : Int) := by omega
  simp only [wP_con, wP_getF, wP_getT, wP_m2, wP_m1, wP_mC, wP_mCons, wP_mTup, wP_mLim, wP_mList, wP_mIt, wP_mIf, wP_mBl, wP_mTru, wP_mNotB, wP_mAndB, wP_mOrB, wP_mNot, wP_mAnd, wP_mOr, wP_mIsi, wP_part, wP_mSl, wP_enum, wP_mZip, wP_mChain, wP_mLc, wE_mE, wE_m2E, wE_m1E, wE_mCE, wE_nil, wE_true, wE_mConsE, wE_mConsS, wE_mConsN, wE_mIfE, wE_mTruE, wE_mBlE, wE_mNotBE, wE_mAndBE, wE_mOrBE, wE_takeF, wE_mLcE, wO_some, wO_ite, wO_getO, if_true, if_false, Bool.false_eq_true, true_and, List.getElem?_cons_zero, List.getElem?_cons_succ, List.set_cons_zero, List.set_cons_succ, r_len1, r_len2, r_len3, wP_mSlS, wE_mSlE, wE_partN, wE_part, wE_mSlEE, wP_dget, wP_din, d_lent, List.length_map, d_add, List.length_cons, List.length_nil]
  repeat (refine ⟨ll_small (by decide), ?_⟩)
  have row2 : ∀ x y : D, noDict x → noDict y → okE (.tuple [x, y]) := fun x y hx hy => ⟨by simp, by decide, fun z hz => by
    simp only [List.mem_cons, List.not_mem_nil, or_false] at hz
    rcases hz with rfl | rfl <;> assumption⟩
  have one : ∀ x : D, okE x → okG okE 100 (.tuple [x]) := fun x hx => g_t (by decide) (by simp) (g_one hx)
  have two : ∀ x y : D, okE x → okE y → okG okE 100 (.tuple [x, y]) := fun x y hx hy => g_t (by decide) (by simp) (fun z hz => by
    simp only [List.mem_cons, List.not_mem_nil, or_false] at hz
    rcases hz with rfl | rfl <;> assumption)
  rw [wS_mForE]
  simp only [wP_con, wP_getF, wP_getT, wP_m2, wP_m1, wP_mC, wP_mCons, wP_mTup, wP_mLim, wP_mList, wP_mIt, wP_mIf, wP_mBl, wP_mTru, wP_mNotB, wP_mAndB, wP_mOrB, wP_mNot, wP_mAnd, wP_mOr, wP_mIsi, wP_part, wP_mSl, wP_enum, wP_mZip, wP_mChain, wP_mLc, wE_mE, wE_m2E, wE_m1E, wE_mCE, wE_nil, wE_true, wE_mConsE, wE_mConsS, wE_mConsN, wE_mIfE, wE_mTruE, wE_mBlE, wE_mNotBE, wE_mAndBE, wE_mOrBE, wE_takeF, wE_mLcE, wO_some, wO_ite, wO_getO, if_true, if_false, Bool.false_eq_true, true_and, List.getElem?_cons_zero, List.getElem?_cons_succ, List.set_cons_zero, List.set_cons_succ, r_len1, r_len2, r_len3, wP_mSlS, wE_mSlE, wE_partN, wE_part, wE_mSlEE, wP_dget, wP_din]
  rw [show rangeD [.int 6] = some ((List.range 6).map fun i => PyData.int (i : Nat)) from d_range (n := 6) (by decide), wO_some]
  refine ⟨range_len (by decide), ?_⟩
  generalize hvs : ([PyData.tuple (Sp.map pD), .tuple [], .none, .tuple [.tuple [.int 0, .int 0]], .tuple [.tuple [.int 0, .int 1], .tuple [.int 0, .int 1]], .tuple [.tuple [.int 0, .int 2], .tuple [.int 1, .int 1]], .tuple [.tuple [.int 1, .int 1], .tuple [.int 0, .int 1]], .tuple [.tuple [.int ((fs.length : Nat) : Int), .int 1]], .tuple [.tuple [.int 0, .int ((lg : Int) + 1)]], .tuple [.tuple [.int 0, .int (((fs.length : Nat) : Int) + 1)]], .tuple [.tuple [.int 0, .bool true]]] : List D) = vs
  have hv : ∀ v ∈ vs, okG okE 100 v := fun v hv => by
    rw [← hvs] at hv
    simp only [List.mem_cons, List.not_mem_nil, or_false] at hv
    rcases hv with rfl | rfl | rfl | rfl | rfl | rfl | rfl | rfl | rfl | rfl | rfl
    · exact okG_due (by omega)
    · exact g_t (by decide) (by simp) (fun x hx => by cases hx)
    · trivial
    · exact one _ (row2 _ _ trivial trivial)
    · exact two _ _ (row2 _ _ trivial trivial) (row2 _ _ trivial trivial)
    · exact two _ _ (row2 _ _ trivial trivial) (row2 _ _ trivial trivial)
    · exact two _ _ (row2 _ _ trivial trivial) (row2 _ _ trivial trivial)
    · exact one _ (row2 _ _ trivial trivial)
    · exact one _ (row2 _ _ trivial trivial)
    · exact one _ (row2 _ _ trivial trivial)
    · exact one _ (row2 _ _ trivial trivial)
  have hvl : vs.length = 11 := by rw [← hvs]; rfl
  clear hvs
  refine wE_lcGoE (fun ρ => ∃ bx s17, Bx b bx ∧ ρ = [.no, .ob 1 bx, s2, .fr (.int (c : Int)), .fr (.int (L : Int)), .fr (.int (hg : Int)), .fr (.int (lg : Int)), .fr (.tuple (fs.map tI)), .fr (.tuple (Sp.map pD)), .ow (.dict (ents Sp 0)), s10, s11, s12, s13, .fr (.list vs), s15, s16, s17, s18, s19, s20]) (fun _ v => okG okE 100 v) (fun d hd ρ ⟨bx, s17, hb, e⟩ => ?_) ⟨_, _, hb5, rfl⟩ (fun gs ρ hgs ⟨bx6, s17, hb6, e⟩ => ?_)
  · subst e
    obtain ⟨⟨z, bx'⟩, e, hz, hb'⟩ := spoilt_due hb (Sp := Sp) (by omega)
    simp only [wipeE, List.set_cons_zero, List.set_cons_succ, wO_some]
    refine wE_call ⟨_, _, rfl⟩ ?_
    simp only [wP_con, wP_getF, wP_getT, wP_m2, wP_m1, wP_mC, wP_mCons, wP_mTup, wP_mLim, wP_mList, wP_mIt, wP_mIf, wP_mBl, wP_mTru, wP_mNotB, wP_mAndB, wP_mOrB, wP_mNot, wP_mAnd, wP_mOr, wP_mIsi, wP_part, wP_mSl, wP_enum, wP_mZip, wP_mChain, wP_mLc, wE_mE, wE_m2E, wE_m1E, wE_mCE, wE_nil, wE_true, wE_mConsE, wE_mConsS, wE_mConsN, wE_mIfE, wE_mTruE, wE_mBlE, wE_mNotBE, wE_mAndBE, wE_mOrBE, wE_takeF, wE_mLcE, wO_some, wO_ite, wO_getO, if_true, if_false, Bool.false_eq_true, true_and, List.getElem?_cons_zero, List.getElem?_cons_succ, List.set_cons_zero, List.set_cons_succ, r_len1, r_len2, r_len3, wP_mSlS, wE_mSlE, wE_partN, wE_part, wE_mSlEE, wP_dget, wP_din]
    refine ⟨bx, rfl, _, e, ?_⟩
    simp only [List.set_cons_zero, List.set_cons_succ]
    exact ⟨rfl, hz, _, _, hb', rfl⟩
  have hga := hgs.all
  have hgl := hgs.length
  rw [List.length_map, List.length_range] at hgl
  subst e
  rw [d_addl (by rw [hgl, hvl]; exact ll_small (by decide)), wO_some]
  simp only [d_iteml, wO_some]
  refine wS_loopI (fun ρ => ∃ s15, ρ = [.no, .ob 1 bx6, s2, .fr (.int (c : Int)), .fr (.int (L : Int)), .fr (.int (hg : Int)), .fr (.int (lg : Int)), .fr (.tuple (fs.map tI)), .fr (.tuple (Sp.map pD)), .ow (.dict (ents Sp 0)), s10, s11, s12, s13, .fr (.list vs), s15, s16, s17, s18, s19, s20]) ⟨_, rfl⟩ (fun d hd ρ ⟨s15, e⟩ => ?_) (fun ρ ⟨s15, e⟩ => by subst e; exact ⟨_, _, _, _, _, _, _, _, _, _, _, _, _, _, _, _, _, _, _, _, hb6, rfl⟩)
  subst e
  have hdo : okG okE 100 d := (List.mem_append.mp hd).elim (hv d) (hga d)
  rw [wO_some]
  simp only [List.set_cons_zero, List.set_cons_succ]
  refine (law1_ok hdo (by omega) _ _ _ _ _ _ _ _ _ _ _ _ _ _ _ _ _ _).mono fun o e => ?_
  subst e
  exact ⟨_, rfl⟩
theorem law_holds : ∀ (b : Nat) (ns : List Int), ns.length ≤ 63 → ∃ ρ, b_law (startL 21 1 b ns) = some (.rt (.bool true) ρ) := by
  intro b ns hn
  have hb := bx_start b ns hn
  have key : wS b_law (startL 21 1 b ns) fun o => ∃ ρ, o = .rt (.bool true) ρ := by
    show wS b_law [.no, .ob 1 (boxD b ns 0 (4711 + ns.length)), .no, .no, .no, .no, .no, .no, .no, .no, .no, .no, .no, .no, .no, .no, .no, .no, .no, .no, .no] _
    generalize boxD b ns 0 (4711 + ns.length) = bx at *
    have q0 : neD (.tuple [.int 8, .int 32]) (.tuple [.int 8, .int 32]) = some (.bool false) := rfl
    unfold b_law
    refine wS_chk ?_ ?_
    · simp only [wP_con, wP_getF, wP_getT, wP_m2, wP_m1, wP_mC, wP_mCons, wP_mTup, wP_mLim, wP_mList, wP_mIt, wP_mIf, wP_mBl, wP_mTru, wP_mNotB, wP_mAndB, wP_mOrB, wP_mNot, wP_mAnd, wP_mOr, wP_mIsi, wP_part, wP_mSl, wP_enum, wP_mZip, wP_mChain, wP_mLc, wE_mE, wE_m2E, wE_m1E, wE_mCE, wE_nil, wE_true, wE_mConsE, wE_mConsS, wE_mConsN, wE_mIfE, wE_mTruE, wE_mBlE, wE_mNotBE, wE_mAndBE, wE_mOrBE, wE_takeF, wE_mLcE, wO_some, wO_ite, wO_getO, if_true, if_false, Bool.false_eq_true, true_and, List.getElem?_cons_zero, List.getElem?_cons_succ, List.set_cons_zero, List.set_cons_succ, r_len1, r_len2, r_len3, wP_mSlS, wE_mSlE, wE_partN, wE_part, wE_mSlEE, wP_dget, wP_din, q0, List.length_cons, List.length_nil]
      exact ⟨ll_small (by decide), ll_small (by decide), trivial⟩
    rw [wS_mSeq, wS_mFor]
    simp only [wP_con, wP_getF, wP_getT, wP_m2, wP_m1, wP_mC, wP_mCons, wP_mTup, wP_mLim, wP_mList, wP_mIt, wP_mIf, wP_mBl, wP_mTru, wP_mNotB, wP_mAndB, wP_mOrB, wP_mNot, wP_mAnd, wP_mOr, wP_mIsi, wP_part, wP_mSl, wP_enum, wP_mZip, wP_mChain, wP_mLc, wE_mE, wE_m2E, wE_m1E, wE_mCE, wE_nil, wE_true, wE_mConsE, wE_mConsS, wE_mConsN, wE_mIfE, wE_mTruE, wE_mBlE, wE_mNotBE, wE_mAndBE, wE_mOrBE, wE_takeF, wE_mLcE, wO_some, wO_ite, wO_getO, if_true, if_false, Bool.false_eq_true, true_and, List.getElem?_cons_zero, List.getElem?_cons_succ, List.set_cons_zero, List.set_cons_succ, r_len1, r_len2, r_len3, wP_mSlS, wE_mSlE, wE_partN, wE_part, wE_mSlEE, wP_dget, wP_din]
    rw [show rangeD [.int 6] = some ((List.range 6).map fun i => PyData.int (i : Nat)) from d_range (n := 6) (by decide), wO_some]
    refine wS_loopI (Inv01 b) ⟨bx, _, _, _, _, _, _, _, _, _, _, _, _, _, _, _, _, _, _, _, hb, rfl⟩ (fun d _ ρ ⟨bx, s2, s3, s4, s5, s6, s7, s8, s9, s10, s11, s12, s13, s14, s15, s16, s17, s18, s19, s20, hb, e⟩ => ?_) (fun ρ h => ?_)
    · subst e
      rw [wO_some]
      exact turn_ok b bx hb _ _ _ _ _ _ _ _ _ _ _ _ _ _ _ _ _ _ _
    · show wS (mRet _) ρ _
      rw [wS_mRet]
      simp only [wP_con, wP_getF, wP_getT, wP_m2, wP_m1, wP_mC, wP_mCons, wP_mTup, wP_mLim, wP_mList, wP_mIt, wP_mIf, wP_mBl, wP_mTru, wP_mNotB, wP_mAndB, wP_mOrB, wP_mNot, wP_mAnd, wP_mOr, wP_mIsi, wP_part, wP_mSl, wP_enum, wP_mZip, wP_mChain, wP_mLc, wE_mE, wE_m2E, wE_m1E, wE_mCE, wE_nil, wE_true, wE_mConsE, wE_mConsS, wE_mConsN, wE_mIfE, wE_mTruE, wE_mBlE, wE_mNotBE, wE_mAndBE, wE_mOrBE, wE_takeF, wE_mLcE, wO_some, wO_ite, wO_getO, if_true, if_false, Bool.false_eq_true, true_and, List.getElem?_cons_zero, List.getElem?_cons_succ, List.set_cons_zero, List.set_cons_succ, r_len1, r_len2, r_len3, wP_mSlS, wE_mSlE, wE_partN, wE_part, wE_mSlEE, wP_dget, wP_din]
      exact ⟨ρ, rfl⟩
  obtain ⟨o, h1, ρ, rfl⟩ := key
  exact ⟨ρ, h1⟩
end Mi

end
open PySem PySem.W PyProof.Rows
set_option maxHeartbeats 0 in
theorem PySem.Challenge.cw_voicescarried_k01_whole_spurts_holds : PySem.Challenge.rw_voicescarried_k01_whole_spurts.Holds := by
  w_on; o_law; k_head; (case hw => w_witness2)
  k_fill
  refine L2.walk_of (l := PySem.Challenge.rw_voicescarried_k01_whole_spurts) (n := 63) (k := 16) (x := "script") (CX := fun _ => L2.CX0) (sp := fun w => Mi.spLaw _) rfl (by decide) rfl ⟨rfl, by decide, by decide⟩ (fun w h Y => PySem.W.kIn_of Y) ?F (fun _ _ a ns hl _ hS => ⟨a, ns, rfl, hS, hl, fun _ => rfl⟩) (fun _ _ _ _ _ h => h)
  case F =>
    intro w mg fa h KX G hmg
    refine' Mi.all_mk KX G hmg Mi.law_holds ?a0 ?l0 ?c0 ?k0 ?a1 ?l1 ?c1 ?k1 ?a2 ?l2 ?c2 ?k2 ?a3 ?l3 ?c3 ?k3 ?a4 ?l4 ?c4 ?k4 ?a5 ?l5 ?c5 ?k5 ?a6 ?l6 ?c6 ?k6 ?a7 ?l7 ?c7 ?k7 ?a8 ?l8 ?c8 ?k8 ?a9 ?l9 ?c9 ?k9 ?a10 ?l10 ?c10 ?k10 ?a11 ?l11 ?c11 ?k11 ?a12 ?l12 ?c12 ?k12 ?a13 ?l13 ?c13 ?k13 ?a14 ?l14 ?c14 ?k14 ?a15 ?l15 ?c15 ?k15 ?a16 ?l16 ?c16 ?k16 ?a17 ?l17 ?c17 ?k17 ?y0 ?y1 ?z0 ?z1 ?z2 ?z3 ?z4 ?z5 ?z6 ?z7 ?z8 ?z9 ?z10 ?z11 ?z12 ?z13
    (case a0 => k_is)
    (case l0 => k_is)
    (case c0 => k_is)
    (case k0 => k_is)
    (case a1 => k_is)
    (case l1 => k_is)
    (case c1 => k_is)
    (case k1 => k_is)
    (case a2 => k_is)
    (case l2 => k_is)
    (case c2 => k_is)
    (case k2 => k_is)
    (case a3 => k_is)
    (case l3 => k_is)
    (case c3 => k_is)
    (case k3 => k_is)
    (case a4 => k_is)
    (case l4 => k_is)
    (case c4 => k_is)
    (case k4 => k_is)
    (case a5 => k_is)
    (case l5 => k_is)
    (case c5 => k_is)
    (case k5 => k_is)
    (case a6 => k_is)
    (case l6 => k_is)
    (case c6 => k_is)
    (case k6 => k_is)
    (case a7 => k_is)
    (case l7 => k_is)
    (case c7 => k_is)
    (case k7 => k_is)
    (case a8 => k_is)
    (case l8 => k_is)
    (case c8 => k_is)
    (case k8 => k_is)
    (case a9 => k_is)
    (case l9 => k_is)
    (case c9 => k_is)
    (case k9 => k_is)
    (case a10 => k_is)
    (case l10 => k_is)
    (case c10 => k_is)
    (case k10 => k_is)
    (case a11 => k_is)
    (case l11 => k_is)
    (case c11 => k_is)
    (case k11 => k_is)
    (case a12 => k_is)
    (case l12 => k_is)
    (case c12 => k_is)
    (case k12 => k_is)
    (case a13 => k_is)
    (case l13 => k_is)
    (case c13 => k_is)
    (case k13 => k_is)
    (case a14 => k_is)
    (case l14 => k_is)
    (case c14 => k_is)
    (case k14 => k_is)
    (case a15 => k_is)
    (case l15 => k_is)
    (case c15 => k_is)
    (case k15 => k_is)
    (case a16 => k_is)
    (case l16 => k_is)
    (case c16 => k_is)
    (case k16 => k_is)
    (case a17 => k_is)
    (case l17 => k_is)
    (case c17 => k_is)
    (case k17 => k_is)
    (case y0 => k_is)
    (case y1 => k_is)
    (case z0 => k_is)
    (case z1 => k_is)
    (case z2 => k_is)
    (case z3 => k_is)
    (case z4 => k_is)
    (case z5 => k_is)
    (case z6 => k_is)
    (case z7 => k_is)
    (case z8 => k_is)
    (case z9 => k_is)
    (case z10 => k_is)
    (case z11 => k_is)
    (case z12 => k_is)
    (case z13 => k_is)

